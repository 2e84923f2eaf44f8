import PyProof.Rows.All
import Wide.All
import OpenK.AllK
import Wide.FinOn
import HandS.ForMost
import HandS.Exc
import HandS.Flow
import HandS.ExcOwn
import HandS.WordsExc
import HandS.Zip
import HandS.IsInst
import HandS.TupAny
import HandS.Deep
import HandS.Defaults
import HandS.Head0
import HandS.Head1
import HandS.Head2
import HandS.HeadEnd
import HandS.HeadHook1
import HandS.HeadHook2
import Lean
import PySem.Challenge.RW_queuedsums_k02_whole_all_sound_histories
set_option Elab.async false
set_option linter.all false
set_option maxRecDepth 100000
section
set_option maxRecDepth 100000
set_option maxHeartbeats 1000000
/-! Pi1: data, frames' entries, the relation of pure data with the layer's heap. -/
namespace PI
open PySem PySem.Spec PyProof.Rows L2

/-- plain data -/
inductive D where
  | non | bl (b : Bool) | int (i : Int) | str (x : Str)
  | tup (xs : List D) | lst (xs : List D)
  | dct (ks vs : List D) | set (xs : List D)
  | exc (c : Str) (ps : List D)
  /-- a list that stands elsewhere and is only read: the script -/
  | scr (xs : List D)

/-- an entry of a frame, or a result: frozen data, or an object that nobody else holds -/
inductive Ent where
  | un | fz (d : D) | ow (d : D)
abbrev En := List Ent
def Ent.d : Ent → Option D
  | .un => none
  | .fz d => some d
  | .ow d => some d

mutual
def Rep (K : PySem.W.Frag) (F : Hp) : D → V → Prop
  | .non, v => v = .non
  | .bl b, v => v = .bl b
  | .int i, v => v = .int i
  | .str x, v => v = .str x
  | .tup ds, v => ∃ a vs, v = .ref a ∧ SqT K F a vs ∧ RepAll K F ds vs
  | .lst ds, v => ∃ a vs, v = .ref a ∧ F a = some (.lst vs) ∧ RepAll K F ds vs
  | .scr ds, v => ∃ a vs, v = .ref a ∧ SqL K F a vs ∧ RepAll K F ds vs
  | .dct _ _, _ => False
  | .set _, _ => False
  | .exc _ _, _ => False
def RepAll (K : PySem.W.Frag) (F : Hp) : List D → List V → Prop
  | [], vs => vs = []
  | d :: ds, vs => ∃ v r, vs = v :: r ∧ Rep K F d v ∧ RepAll K F ds r
end

def FLe (F H : Hp) : Prop := ∀ a o, F a = some o → H a = some o
theorem FLe.refl {F : Hp} : FLe F F := fun _ _ h => h
theorem FLe.trans {F G H : Hp} (a : FLe F G) (b : FLe G H) : FLe F H := fun x o h => b x o (a x o h)
theorem Rd.mono {F H : Hp} (l : FLe F H) {a : Addr} {u : HO} (r : Rd F a u) : Rd H a u := by
  rcases r with r | ⟨o, r⟩
  · exact .inl (l _ _ r)
  · exact .inr ⟨o, l _ _ r⟩
theorem SqT.mono {K : PySem.W.Frag} {F H : Hp} (l : FLe F H) {a : Addr} {xs : List V} (r : SqT K F a xs) : SqT K H a xs := by
  rcases r with r | r
  · exact .inl (Rd.mono l r)
  · exact .inr r
theorem SqL.mono {K : PySem.W.Frag} {F H : Hp} (l : FLe F H) {a : Addr} {xs : List V} (r : SqL K F a xs) : SqL K H a xs := by
  rcases r with r | r
  · exact .inl (Rd.mono l r)
  · exact .inr r
mutual
theorem Rep.mono {K : PySem.W.Frag} {F H : Hp} (l : FLe F H) : ∀ (d : D) (v : V), Rep K F d v → Rep K H d v
  | .non, v, h => h
  | .bl b, v, h => h
  | .int i, v, h => h
  | .str x, v, h => h
  | .tup ds, v, h => by
    obtain ⟨a, vs, e, s, r⟩ := h
    exact ⟨a, vs, e, SqT.mono l s, RepAll.mono l ds vs r⟩
  | .lst ds, v, h => by
    obtain ⟨a, vs, e, s, r⟩ := h
    exact ⟨a, vs, e, l _ _ s, RepAll.mono l ds vs r⟩
  | .scr ds, v, h => by
    obtain ⟨a, vs, e, s, r⟩ := h
    exact ⟨a, vs, e, SqL.mono l s, RepAll.mono l ds vs r⟩
  | .dct _ _, _, h => h
  | .set _, _, h => h
  | .exc _ _, _, h => h
theorem RepAll.mono {K : PySem.W.Frag} {F H : Hp} (l : FLe F H) : ∀ (ds : List D) (vs : List V), RepAll K F ds vs → RepAll K H ds vs
  | [], vs, h => h
  | d :: ds, vs, h => by
    obtain ⟨v, r, e, h1, h2⟩ := h
    exact ⟨v, r, e, Rep.mono l d v h1, RepAll.mono l ds r h2⟩
end
theorem RepAll.length {K : PySem.W.Frag} {F : Hp} : ∀ {ds : List D} {vs : List V}, RepAll K F ds vs → vs.length = ds.length
  | [], vs, h => by cases (show vs = [] from h); rfl
  | d :: ds, vs, h => by
    obtain ⟨v, r, rfl, _, h2⟩ := h
    rw [List.length_cons, List.length_cons, RepAll.length h2]
theorem RepAll.append {K : PySem.W.Frag} {F : Hp} : ∀ {ds es : List D} {vs ws : List V}, RepAll K F ds vs → RepAll K F es ws → RepAll K F (ds ++ es) (vs ++ ws)
  | [], es, vs, ws, h, k => by cases (show vs = [] from h); exact k
  | d :: ds, es, vs, ws, h, k => by
    obtain ⟨v, r, rfl, h1, h2⟩ := h
    exact ⟨v, r ++ ws, rfl, h1, RepAll.append h2 k⟩
theorem RepAll.get {K : PySem.W.Frag} {F : Hp} : ∀ {ds : List D} {vs : List V}, RepAll K F ds vs → ∀ {i : Nat} {d : D}, ds[i]? = some d → ∃ v, vs[i]? = some v ∧ Rep K F d v
  | [], vs, h, i, d, e => by simp at e
  | d :: ds, vs, h, 0, d', e => by
    obtain ⟨v, r, rfl, h1, h2⟩ := h
    simp at e; subst e
    exact ⟨v, rfl, h1⟩
  | d :: ds, vs, h, i + 1, d', e => by
    obtain ⟨v, r, rfl, h1, h2⟩ := h
    obtain ⟨v', e', h'⟩ := RepAll.get h2 (i := i) (by simpa using e)
    exact ⟨v', by simpa using e', h'⟩
theorem RepAll.take {K : PySem.W.Frag} {F : Hp} : ∀ {ds : List D} {vs : List V} (n : Nat), RepAll K F ds vs → RepAll K F (ds.take n) (vs.take n)
  | [], vs, n, h => by cases (show vs = [] from h); simp [RepAll]
  | d :: ds, vs, 0, h => by simp [RepAll]
  | d :: ds, vs, n + 1, h => by
    obtain ⟨v, r, rfl, h1, h2⟩ := h
    exact ⟨v, r.take n, rfl, h1, RepAll.take n h2⟩
theorem RepAll.drop {K : PySem.W.Frag} {F : Hp} : ∀ {ds : List D} {vs : List V} (n : Nat), RepAll K F ds vs → RepAll K F (ds.drop n) (vs.drop n)
  | [], vs, n, h => by cases (show vs = [] from h); simp [RepAll]
  | d :: ds, vs, 0, h => h
  | d :: ds, vs, n + 1, h => by
    obtain ⟨v, r, rfl, h1, h2⟩ := h
    exact RepAll.drop n h2
theorem RepAll.set {K : PySem.W.Frag} {F : Hp} {d : D} {v : V} (hd : Rep K F d v) : ∀ {ds : List D} {vs : List V} (i : Nat), RepAll K F ds vs → RepAll K F (ds.set i d) (vs.set i v)
  | [], vs, i, h => by cases (show vs = [] from h); simp [RepAll]
  | d' :: ds, vs, 0, h => by
    obtain ⟨v', r, rfl, h1, h2⟩ := h
    exact ⟨v, r, rfl, hd, h2⟩
  | d' :: ds, vs, i + 1, h => by
    obtain ⟨v', r, rfl, h1, h2⟩ := h
    exact ⟨v', r.set i v, rfl, h1, RepAll.set hd i h2⟩
theorem RepAll.eraseIdx {K : PySem.W.Frag} {F : Hp} : ∀ {ds : List D} {vs : List V} (i : Nat), RepAll K F ds vs → RepAll K F (ds.eraseIdx i) (vs.eraseIdx i)
  | [], vs, i, h => by cases (show vs = [] from h); simp [RepAll]
  | d' :: ds, vs, 0, h => by
    obtain ⟨v', r, rfl, h1, h2⟩ := h
    exact h2
  | d' :: ds, vs, i + 1, h => by
    obtain ⟨v', r, rfl, h1, h2⟩ := h
    exact ⟨v', r.eraseIdx i, rfl, h1, RepAll.eraseIdx i h2⟩
theorem RepAll.dropLast {K : PySem.W.Frag} {F : Hp} {ds : List D} {vs : List V} (h : RepAll K F ds vs) : RepAll K F ds.dropLast vs.dropLast := by
  rw [List.dropLast_eq_take, List.dropLast_eq_take, h.length]
  exact RepAll.take _ h
theorem RepAll.reverse {K : PySem.W.Frag} {F : Hp} : ∀ {ds : List D} {vs : List V}, RepAll K F ds vs → RepAll K F ds.reverse vs.reverse
  | [], vs, h => by cases (show vs = [] from h); simp [RepAll]
  | d :: ds, vs, h => by
    obtain ⟨v, r, rfl, h1, h2⟩ := h
    rw [List.reverse_cons, List.reverse_cons]
    exact RepAll.append (RepAll.reverse h2) ⟨v, [], rfl, h1, rfl⟩
theorem RepAll.flatrep {K : PySem.W.Frag} {F : Hp} {ds : List D} {vs : List V} (h : RepAll K F ds vs) : ∀ n : Nat, RepAll K F (List.replicate n ds).flatten (List.replicate n vs).flatten
  | 0 => rfl
  | n + 1 => by
    rw [List.replicate_succ, List.replicate_succ, List.flatten_cons, List.flatten_cons]
    exact RepAll.append h (RepAll.flatrep h n)
theorem RepAll.nil {K : PySem.W.Frag} {F : Hp} : RepAll K F [] [] := rfl
theorem RepAll.cons {K : PySem.W.Frag} {F : Hp} {d : D} {ds : List D} {v : V} {vs : List V} (h : Rep K F d v) (t : RepAll K F ds vs) : RepAll K F (d :: ds) (v :: vs) := ⟨v, vs, rfl, h, t⟩

/-- an object of one holder -/
def OwnAt (K : PySem.W.Frag) (F H : Hp) (a : Addr) : D → Prop
  | .lst ds => ∃ vs, H a = some (.lst vs) ∧ RepAll K F ds vs
  | _ => False
def EntOk (K : PySem.W.Frag) (F H : Hp) : Ent → V → Prop
  | .un, _ => True
  | .fz d, v => Rep K F d v
  | .ow d, v => ∃ a, v = .ref a ∧ F a = none ∧ OwnAt K F H a d
theorem OwnAt.mono {K : PySem.W.Frag} {F F' H H' : Hp} {a : Addr} {d : D} (l : FLe F F') (e : H' a = H a) (h : OwnAt K F H a d) : OwnAt K F' H' a d := by
  cases d with
  | lst ds =>
    obtain ⟨vs, h1, h2⟩ := h
    exact ⟨vs, e.trans h1, RepAll.mono l _ _ h2⟩
  | _ => exact h
theorem OwnAt.some {K : PySem.W.Frag} {F H : Hp} {a : Addr} {d : D} (h : OwnAt K F H a d) : ∃ o, H a = some o := by
  cases d with
  | lst ds =>
    obtain ⟨vs, h1, h2⟩ := h
    exact ⟨_, h1⟩
  | _ => exact h.elim
theorem OwnAt.read {K : PySem.W.Frag} {F H : Hp} {a : Addr} {d : D} (l : FLe F H) (h : OwnAt K F H a d) : Rep K H d (.ref a) := by
  cases d with
  | lst ds =>
    obtain ⟨vs, h1, h2⟩ := h
    exact ⟨a, vs, rfl, h1, RepAll.mono l _ _ h2⟩
  | _ => exact h.elim
/-- what an entry says may be read -/
theorem EntOk.read {K : PySem.W.Frag} {F H : Hp} {r : Ent} {v : V} {d : D} (l : FLe F H) (h : EntOk K F H r v) (e : r.d = some d) : Rep K H d v := by
  cases r with
  | un => cases e
  | fz d' => cases e; exact Rep.mono l _ _ h
  | ow d' =>
    cases e
    obtain ⟨a, rfl, _, h3⟩ := h
    exact h3.read l

def Owned (env : En) (σ : L2.St) (a : Addr) : Prop := ∃ (i : Nat) (d : D), env[i]? = some (Ent.ow d) ∧ σ[i]? = some (some (V.ref a))
structure St (K : PySem.W.Frag) (F : Hp) (env : En) (σ : L2.St) (H : Hp) : Prop where
  len : env.length = σ.length
  le : FLe F H
  ent : ∀ (i : Nat) (r : Ent), env[i]? = some r → r ≠ .un → ∃ v : V, σ[i]? = some (some v) ∧ EntOk K F H r v
  sep : ∀ (i j : Nat) (d e : D) (a : Addr), env[i]? = some (.ow d) → env[j]? = some (.ow e) → σ[i]? = some (some (.ref a)) → σ[j]? = some (some (.ref a)) → i = j
structure Ext (F : Hp) (env : En) (σ : L2.St) (H : Hp) (F' : Hp) (env' : En) (σ' : L2.St) (H' : Hp) : Prop where
  le : FLe F F'
  kept : ∀ a o, H a = some o → ¬ Owned env σ a → H' a = some o
  own : ∀ a, Owned env' σ' a → Owned env σ a ∨ H a = none
  new : ∀ a o, F' a = some o → F a = none → Owned env σ a ∨ H a = none

theorem Ext.refl {F : Hp} {env : En} {σ : L2.St} {H : Hp} : Ext F env σ H F env σ H :=
  ⟨FLe.refl, fun _ _ h _ => h, fun _ h => .inl h, fun _ _ h h' => by rw [h] at h'; cases h'⟩
theorem Ext.trans {F F1 F2 : Hp} {e e1 e2 : En} {σ σ1 σ2 : L2.St} {H H1 H2 : Hp} (a : Ext F e σ H F1 e1 σ1 H1) (b : Ext F1 e1 σ1 H1 F2 e2 σ2 H2) : Ext F e σ H F2 e2 σ2 H2 where
  le := a.le.trans b.le
  kept := fun x o h n => b.kept x o (a.kept x o h n) fun q => (a.own x q).elim n fun z => by rw [h] at z; cases z
  own := fun x q => by
    rcases b.own x q with q | q
    · exact a.own x q
    · cases h : H x with
      | none => exact .inr rfl
      | some o =>
        refine .inl (Classical.byContradiction fun n => ?_)
        rw [a.kept x o h n] at q; cases q
  new := fun x o h n => by
    cases h1 : F1 x with
    | some o1 => exact a.new x o1 h1 n
    | none =>
      rcases b.new x o h h1 with q | q
      · exact a.own x q
      · cases h : H x with
        | none => exact .inr rfl
        | some o =>
          refine .inl (Classical.byContradiction fun n => ?_)
          rw [a.kept x o h n] at q; cases q

theorem St.slot {K : PySem.W.Frag} {F : Hp} {env : En} {σ : L2.St} {H : Hp} (S : St K F env σ H) {i : Nat} {r : Ent} (e : env[i]? = some r) (hr : r ≠ .un) : ∃ v : V, σ[i]? = some (some v) ∧ EntOk K F H r v := S.ent i r e hr
theorem owned_app {env pe : En} {σ ps : L2.St} {a : Addr} (hl : env.length = σ.length) : Owned (env ++ pe) (σ ++ ps) a ↔ Owned env σ a ∨ Owned pe ps a := by
  constructor
  · rintro ⟨i, d, h1, h2⟩
    by_cases hi : i < env.length
    · rw [List.getElem?_append_left hi] at h1
      rw [List.getElem?_append_left (by omega)] at h2
      exact .inl ⟨i, d, h1, h2⟩
    · rw [List.getElem?_append_right (by omega)] at h1
      rw [List.getElem?_append_right (by omega), ← hl] at h2
      exact .inr ⟨_, d, h1, h2⟩
  · rintro (⟨i, d, h1, h2⟩ | ⟨i, d, h1, h2⟩)
    · have hi : i < env.length := (List.getElem?_eq_some_iff.mp h1).1
      refine ⟨i, d, ?_, ?_⟩
      · rw [List.getElem?_append_left hi]; exact h1
      · rw [List.getElem?_append_left (by omega)]; exact h2
    · refine ⟨env.length + i, d, ?_, ?_⟩
      · rw [List.getElem?_append_right (by omega), Nat.add_sub_cancel_left]; exact h1
      · rw [List.getElem?_append_right (by omega), ← hl, Nat.add_sub_cancel_left]; exact h2
/-- the first part alone -/
theorem St.left {K : PySem.W.Frag} {F : Hp} {env pe : En} {σ ps : L2.St} {H : Hp} (S : St K F (env ++ pe) (σ ++ ps) H) (hl : env.length = σ.length) : St K F env σ H where
  len := hl
  le := S.le
  ent := fun i r e hr => by
    have hi : i < env.length := (List.getElem?_eq_some_iff.mp e).1
    obtain ⟨v, h1, h2⟩ := S.ent i r (by rw [List.getElem?_append_left hi]; exact e) hr
    rw [List.getElem?_append_left (by omega)] at h1
    exact ⟨v, h1, h2⟩
  sep := fun i j d e a h1 h2 h3 h4 => by
    have hi : i < env.length := (List.getElem?_eq_some_iff.mp h1).1
    have hj : j < env.length := (List.getElem?_eq_some_iff.mp h2).1
    exact S.sep i j d e a (by rw [List.getElem?_append_left hi]; exact h1) (by rw [List.getElem?_append_left hj]; exact h2) (by rw [List.getElem?_append_left (by omega)]; exact h3) (by rw [List.getElem?_append_left (by omega)]; exact h4)
theorem St.right {K : PySem.W.Frag} {F : Hp} {env pe : En} {σ ps : L2.St} {H : Hp} (S : St K F (env ++ pe) (σ ++ ps) H) (hl : env.length = σ.length) : St K F pe ps H where
  len := by have := S.len; simp only [List.length_append] at this; omega
  le := S.le
  ent := fun i r e hr => by
    obtain ⟨v, h1, h2⟩ := S.ent (env.length + i) r (by rw [List.getElem?_append_right (by omega), Nat.add_sub_cancel_left]; exact e) hr
    rw [List.getElem?_append_right (by omega), ← hl, Nat.add_sub_cancel_left] at h1
    exact ⟨v, h1, h2⟩
  sep := fun i j d e a h1 h2 h3 h4 => by
    have := S.sep (env.length + i) (env.length + j) d e a (by rw [List.getElem?_append_right (by omega), Nat.add_sub_cancel_left]; exact h1) (by rw [List.getElem?_append_right (by omega), Nat.add_sub_cancel_left]; exact h2) (by rw [List.getElem?_append_right (by omega), ← hl, Nat.add_sub_cancel_left]; exact h3) (by rw [List.getElem?_append_right (by omega), ← hl, Nat.add_sub_cancel_left]; exact h4)
    omega
/-- what another part holds is held on -/
theorem St.frame {K : PySem.W.Frag} {F F' : Hp} {env pe env' : En} {σ ps σ' : L2.St} {H H' : Hp} (S : St K F (env ++ pe) (σ ++ ps) H) (hl : env.length = σ.length)
    (S' : St K F' env' σ' H') (x : Ext F env σ H F' env' σ' H') : St K F' (env' ++ pe) (σ' ++ ps) H' := by
  have SR := S.right hl
  have hp : pe.length = ps.length := SR.len
  have disj : ∀ a, Owned pe ps a → ¬ Owned env σ a := by
    rintro a ⟨j, e, h3, h4⟩ ⟨i, d, h1, h2⟩
    have hi : i < env.length := (List.getElem?_eq_some_iff.mp h1).1
    have := S.sep i (env.length + j) d e a (by rw [List.getElem?_append_left hi]; exact h1) (by rw [List.getElem?_append_right (by omega), Nat.add_sub_cancel_left]; exact h3) (by rw [List.getElem?_append_left (by omega)]; exact h2) (by rw [List.getElem?_append_right (by omega), ← hl, Nat.add_sub_cancel_left]; exact h4)
    omega
  have there : ∀ a, Owned pe ps a → ∃ o, H a = some o := by
    rintro a ⟨j, e, h3, h4⟩
    obtain ⟨v, q1, q2⟩ := SR.ent j _ h3 (by simp)
    rw [h4] at q1; cases q1
    obtain ⟨b, q3, _, q4⟩ := q2
    cases q3
    exact q4.some
  refine ⟨by rw [List.length_append, List.length_append, S'.len, hp], S'.le, fun i r e hr => ?_, fun i j d e a h1 h2 h3 h4 => ?_⟩
  · by_cases hi : i < env'.length
    · rw [List.getElem?_append_left hi] at e
      obtain ⟨v, h1, h2⟩ := S'.ent i r e hr
      exact ⟨v, by rw [List.getElem?_append_left (by have := S'.len; omega)]; exact h1, h2⟩
    · rw [List.getElem?_append_right (by omega)] at e
      obtain ⟨v, h1, h2⟩ := SR.ent _ r e hr
      refine ⟨v, by rw [List.getElem?_append_right (by have := S'.len; omega), ← S'.len]; exact h1, ?_⟩
      cases r with
      | un => trivial
      | fz d => exact Rep.mono x.le _ _ h2
      | ow d =>
        obtain ⟨a, rfl, h3, h4⟩ := h2
        have ho : Owned pe ps a := ⟨_, d, e, h1⟩
        obtain ⟨o, h5⟩ := there a ho
        refine ⟨a, rfl, ?_, h4.mono x.le ((x.kept a o h5 (disj a ho)).trans h5.symm)⟩
        cases q : F' a with
        | none => rfl
        | some u =>
          rcases x.new a u q h3 with z | z
          · exact (disj a ho z).elim
          · rw [z] at h5; cases h5
  · have le' := S'.len
    have noc : ∀ (i j : Nat) (d e : D), env'[i]? = some (.ow d) → pe[j]? = some (.ow e) → σ'[i]? = some (some (.ref a)) → ps[j]? = some (some (.ref a)) → False := fun i j d e q1 q2 q3 q4 => by
      have ho : Owned pe ps a := ⟨j, e, q2, q4⟩
      rcases x.own a ⟨i, d, q1, q3⟩ with z | z
      · exact disj a ho z
      · obtain ⟨o, h5⟩ := there a ho
        rw [z] at h5; cases h5
    by_cases hi : i < env'.length <;> by_cases hj : j < env'.length
    · rw [List.getElem?_append_left (by omega)] at h1 h2 h3 h4
      exact S'.sep i j d e a h1 h2 h3 h4
    · rw [List.getElem?_append_left (by omega)] at h1 h3
      rw [List.getElem?_append_right (by omega)] at h2 h4
      rw [← le'] at h4
      exact (noc _ _ _ _ h1 h2 h3 h4).elim
    · rw [List.getElem?_append_left (by omega)] at h2 h4
      rw [List.getElem?_append_right (by omega)] at h1 h3
      rw [← le'] at h3
      exact (noc _ _ _ _ h2 h1 h4 h3).elim
    · rw [List.getElem?_append_right (by omega)] at h1 h2 h3 h4
      rw [← le'] at h3 h4
      have := SR.sep _ _ d e a h1 h2 h3 h4
      omega
/-- the extension, beside another part -/
theorem Ext.frame {F F' : Hp} {env pe env' : En} {σ ps σ' : L2.St} {H H' : Hp} (hl : env.length = σ.length) (hl' : env'.length = σ'.length) (x : Ext F env σ H F' env' σ' H') : Ext F (env ++ pe) (σ ++ ps) H F' (env' ++ pe) (σ' ++ ps) H' where
  le := x.le
  kept := fun a o h n => x.kept a o h fun q => n ((owned_app hl).mpr (.inl q))
  own := fun a q => by
    rcases (owned_app hl').mp q with q | q
    · rcases x.own a q with z | z
      · exact .inl ((owned_app hl).mpr (.inl z))
      · exact .inr z
    · exact .inl ((owned_app hl).mpr (.inr q))
  new := fun a o h n => by
    rcases x.new a o h n with z | z
    · exact .inl ((owned_app hl).mpr (.inl z))
    · exact .inr z

/-- a result beside what is there: it is there already, or new -/
structure New (K : PySem.W.Frag) (F H F' H' : Hp) (r : Ent) (v : V) : Prop where
  le : FLe F F'
  le' : FLe F' H'
  same : Same H H'
  new : ∀ a o, F' a = some o → F a = none → H a = none
  ent : EntOk K F' H' r v
  own : ∀ d, r = .ow d → ∃ a, v = .ref a ∧ H a = none
theorem getElem?_app1 {α : Type} {l : List α} {x y : α} {i : Nat} (h : (l ++ [x])[i]? = some y) : l[i]? = some y ∨ (i = l.length ∧ y = x) := by
  by_cases hi : i < l.length
  · rw [List.getElem?_append_left hi] at h; exact .inl h
  · rw [List.getElem?_append_right (by omega)] at h
    have : i - l.length = 0 := by
      have := (List.getElem?_eq_some_iff.mp h).1
      simp at this; omega
    rw [this] at h
    simp at h
    exact .inr ⟨by omega, h.symm⟩
theorem St.new {K : PySem.W.Frag} {F F' H H' : Hp} {env : En} {σ : L2.St} {r : Ent} {v : V} (S : St K F env σ H) (n : New K F H F' H' r v) :
    St K F' (env ++ [r]) (σ ++ [some v]) H' ∧ Ext F env σ H F' (env ++ [r]) (σ ++ [some v]) H' := by
  have old : ∀ a o, H a = some o → F a = none → F' a = none := fun a o h q => by
    cases z : F' a with
    | none => rfl
    | some u => have := n.new a u z q; rw [h] at this; cases this
  have ents : ∀ (i : Nat) (r' : Ent), env[i]? = some r' → r' ≠ .un → ∃ v : V, σ[i]? = some (some v) ∧ EntOk K F' H' r' v := fun i r' e hr => by
    obtain ⟨v', h1, h2⟩ := S.ent i r' e hr
    refine ⟨v', h1, ?_⟩
    cases r' with
    | un => trivial
    | fz d => exact Rep.mono n.le _ _ h2
    | ow d =>
      obtain ⟨a, rfl, h3, h4⟩ := h2
      obtain ⟨o, ho⟩ := h4.some
      exact ⟨a, rfl, old a o ho h3, h4.mono n.le ((n.same a o ho).trans ho.symm)⟩
  have tracked : ∀ (i : Nat) (d : D) (a : Addr), env[i]? = some (.ow d) → σ[i]? = some (some (.ref a)) → ∃ o, H a = some o := fun i d a e1 e2 => by
    obtain ⟨v', h1, h2⟩ := S.ent i _ e1 (by simp)
    rw [e2] at h1; cases h1
    obtain ⟨b, q, _, h4⟩ := h2
    cases q
    exact h4.some
  refine ⟨⟨by simp [S.len], n.le', fun i r' e hr => ?_, fun i j d e a h1 h2 h3 h4 => ?_⟩, ⟨n.le, fun a o h _ => n.same a o h, fun a q => ?_, fun a o h z => .inr (n.new a o h z)⟩⟩
  · rcases getElem?_app1 e with e | ⟨rfl, rfl⟩
    · obtain ⟨v', h1, h2⟩ := ents i r' e hr
      exact ⟨v', by rw [List.getElem?_append_left (List.getElem?_eq_some_iff.mp h1).1]; exact h1, h2⟩
    · exact ⟨v, by rw [S.len]; simp, n.ent⟩
  · rcases getElem?_app1 h1 with h1 | ⟨rfl, e1⟩ <;> rcases getElem?_app1 h2 with h2 | ⟨rfl, e2⟩
    · have hi := (List.getElem?_eq_some_iff.mp h1).1
      have hj := (List.getElem?_eq_some_iff.mp h2).1
      rw [List.getElem?_append_left (by rw [← S.len]; exact hi)] at h3
      rw [List.getElem?_append_left (by rw [← S.len]; exact hj)] at h4
      exact S.sep i j d e a h1 h2 h3 h4
    · have hi := (List.getElem?_eq_some_iff.mp h1).1
      rw [List.getElem?_append_left (by rw [← S.len]; exact hi)] at h3
      rw [S.len] at h4; simp at h4; subst h4
      obtain ⟨b, q, hb⟩ := n.own e e2.symm
      cases q
      obtain ⟨o, ho⟩ := tracked i d _ h1 h3
      rw [hb] at ho; cases ho
    · have hj := (List.getElem?_eq_some_iff.mp h2).1
      rw [List.getElem?_append_left (by rw [← S.len]; exact hj)] at h4
      rw [S.len] at h3; simp at h3; subst h3
      obtain ⟨b, q, hb⟩ := n.own d e1.symm
      cases q
      obtain ⟨o, ho⟩ := tracked j e _ h2 h4
      rw [hb] at ho; cases ho
    · rfl
  · obtain ⟨i, d, h1, h2⟩ := q
    rcases getElem?_app1 h1 with h1 | ⟨rfl, e1⟩
    · have hi := (List.getElem?_eq_some_iff.mp h1).1
      rw [List.getElem?_append_left (by rw [← S.len]; exact hi)] at h2
      exact .inl ⟨i, d, h1, h2⟩
    · rw [S.len] at h2; simp at h2; subst h2
      obtain ⟨b, q, hb⟩ := n.own d e1.symm
      cases q
      exact .inr hb
end PI

end

section
set_option maxRecDepth 100000
set_option maxHeartbeats 1000000
/-! Pi2: the pure evaluator. -/
namespace PI
open PySem PySem.Spec PyProof.Rows L2

inductive Res (α : Type) where
  | ok (a : α) (e : En) | ex (c : Str) (ps : List D) (e : En) | no
def Res.bind {α β : Type} (r : Res α) (f : α → En → Res β) : Res β :=
  match r with
  | .ok a e => f a e
  | .ex c ps e => .ex c ps e
  | .no => .no
def Res.wish {α : Type} (r : Res α) (p : α → En → Prop) (q : Str → List D → En → Prop) : Prop :=
  match r with
  | .ok a e => p a e
  | .ex c ps e => q c ps e
  | .no => False
inductive CRes where
  | ok (r : Ent) (outs : En) | ex (c : Str) (ps : List D) (outs : En) | no
/-- what the calls do: by the number of the def -/
abbrev Calls := Nat → List Ent → CRes
inductive Opd where
  | sl (i : Nat) | vl (r : Ent)
def Opd.ent (e : En) : Opd → Ent
  | .sl i => (e[i]?).getD .un
  | .vl r => r
def Opd.pe : Opd → Ent
  | .sl _ => .un
  | .vl r => r
def allD (e : En) : List Opd → Option (List D)
  | [] => some []
  | x :: xs => match (x.ent e).d, allD e xs with
    | some d, some ds => some (d :: ds)
    | _, _ => none

inductive Tg where
  | nm (i : Nat) | tp (ts : List Tg)
mutual
def Tg.asg (pw : List Nat) : Tg → D → En → Option En
  | .nm i, d, e => if i ∈ pw then none else some (e.set i (.fz d))
  | .tp ts, d, e => match d with
    | .tup ds => Tg.asgs pw ts ds e
    | _ => none
def Tg.asgs (pw : List Nat) : List Tg → List D → En → Option En
  | [], ds, e => match ds with
    | [] => some e
    | _ => none
  | t :: ts, ds, e => match ds with
    | d :: ds => match Tg.asg pw t d e with
      | some e' => Tg.asgs pw ts ds e'
      | none => none
    | [] => none
end

def cutD (xs : List D) (lo hi : Option Int) : List D := List.take (HT.sIx xs.length xs.length hi - HT.sIx xs.length 0 lo) (List.drop (HT.sIx xs.length 0 lo) xs)
mutual
inductive E where
  | lit (d : D) | var (i : Nat) | con (d : D)
  | tup (es : List E) | lst (es : List E)
  | pn (f : List D → Option Ent) (es : List E)
  | and (a b : E) | or (a b : E) | not (a : E) | ite (c : T) (a b : E)
  | chain (f g : List D → Option Ent) (a b c : E)
  | call (f : Nat) (ms : List Bool) (es : List E)
  | comp (own : List Nat) (tg : Tg) (ik : List D → Option (List D)) (ies : List E) (cs : List T) (elt : E)
  | popL (i : Nat) | popA (i : Nat) (ix : E)
  | sl (a : E) (lo hi : List E)
inductive T where
  | e (x : E) | and (a b : T) | or (a b : T) | not (a : T)
end

def truth : D → Option Bool
  | .non => some false
  | .bl b => some b
  | .int i => some (i != 0)
  | .str x => if x.length ≤ sizeLine then some (x.length != 0) else none
  | .tup xs => some (!xs.isEmpty)
  | .lst xs => some (!xs.isEmpty)
  | _ => none
def isVar : E → Option Nat
  | .var i => some i
  | _ => none
/-- an operand: a frame's own object is not taken, but looked at when it is needed -/
def opnd (m : En → Res Ent) (a : E) (e : En) : Res Opd :=
  match isVar a with
  | some i => match e[i]? with
    | some (.fz d) => .ok (.vl (.fz d)) e
    | some (.ow _) => .ok (.sl i) e
    | _ => .no
  | none => (m e).bind fun r e => .ok (.vl r) e
def frz (r : Ent) (e : En) : Res D :=
  match r.d with
  | some d => .ok d e
  | none => .no
def frozen (m : En → Res Ent) (e : En) : Res D := (m e).bind frz
def retE (o : Option Ent) (e : En) : Res Ent :=
  match o with
  | some .un => .no
  | some r => .ok r e
  | none => .no
def onD (f : List D → Option Ent) (o : Option (List D)) (e : En) : Res Ent :=
  match o with
  | some ds => retE (f ds) e
  | none => .no
def boolE (r : Ent) (e : En) : Res Bool :=
  match r with
  | .fz (.bl b) => .ok b e
  | _ => .no
def onB (r : Ent) (e : En) : Res Bool :=
  match r.d.bind truth with
  | some b => .ok b e
  | none => .no
def slots : List Opd → List Nat
  | [] => []
  | .sl i :: xs => i :: slots xs
  | .vl _ :: xs => slots xs
def putBack : List Opd → En → En → En
  | [], _, e => e
  | _ :: _, [], e => e
  | .sl i :: xs, o :: os, e => putBack xs os (e.set i o)
  | .vl _ :: xs, _ :: os, e => putBack xs os e
def callWith (C : Calls) (f : Nat) (xs : List Opd) (e : En) : Res Ent :=
  if (slots xs).Nodup then
    match C f (xs.map (Opd.ent e)) with
    | .ok r outs => .ok r (putBack xs outs e)
    | .ex c ps outs => .ex c ps (putBack xs outs e)
    | .no => .no
  else .no
def wipeE (e : En) : List Nat → En
  | [] => e
  | i :: is => (wipeE e is).set i .un
def backE (e0 : En) (e : En) : List Nat → En
  | [] => e
  | i :: is => (backE e0 e is).set i ((e0[i]?).getD .un)
def compLoop (tg : Tg) (own : List Nat) (test : En → Res Bool) (elt : En → Res D) : List D → List D → En → Res (List D)
  | [], acc, e => .ok acc e
  | x :: xs, acc, e => match Tg.asg [] tg x (wipeE e own) with
    | none => .no
    | some e1 => match test e1 with
      | .ok true e2 => match elt e2 with
        | .ok d e3 => if acc.length < sizeLine then compLoop tg own test elt xs (acc ++ [d]) e3 else .no
        | _ => .no
      | .ok false e2 => compLoop tg own test elt xs acc e2
      | _ => .no
def slD (lo hi : Option Int) : D → Option Ent
  | .tup xs => some (.fz (.tup (cutD xs lo hi)))
  | .lst xs => some (.ow (.lst (cutD xs lo hi)))
  | .scr xs => some (.ow (.lst (cutD xs lo hi)))
  | .str x => if x.length ≤ sizeLine then some (.fz (.str (cutS x lo hi))) else none
  | _ => none
def onSl (lo hi : Option Int) (r : Ent) (e : En) : Res Ent :=
  match r.d with
  | some d => retE (slD lo hi d) e
  | none => .no
def intE (r : Ent) (e : En) : Res (Option Int) :=
  match r with
  | .fz (.int i) => .ok (some i) e
  | _ => .no
/-- one's own list in a slot -/
def ownL (e : En) (i : Nat) : Option (List D) :=
  match e[i]? with
  | some (.ow (.lst ds)) => some ds
  | _ => none
def popLast (i : Nat) (ds : List D) (e : En) : Res Ent :=
  match ds[ds.length - 1]? with
  | some d => .ok (.fz d) (e.set i (.ow (.lst ds.dropLast)))
  | none => .no
def popAt (i : Nat) (r : Ent) (e : En) : Res Ent :=
  match r, ownL e i with
  | .fz (.int k), some ds => if k.natAbs < 9223372036854775808 then match seqIndex? k ds.length with
    | some j => match ds[j]? with
      | some d => .ok (.fz d) (e.set i (.ow (.lst (ds.eraseIdx j))))
      | none => .no
    | none => .no else .no
  | _, _ => .no
def appL (i : Nat) (d : D) (e : En) : Option En :=
  match ownL e i with
  | some ds => if ds.length < sizeLine then some (e.set i (.ow (.lst (ds ++ [d])))) else none
  | none => none
def extL (i : Nat) (d : D) (e : En) : Option En :=
  match ownL e i, d with
  | some ds, .lst ys => if ds.length + ys.length ≤ sizeLine then some (e.set i (.ow (.lst (ds ++ ys)))) else none
  | _, _ => none
def stiL (i : Nat) (d : D) (r : Ent) (e : En) : Option En :=
  match ownL e i, r with
  | some ds, .fz (.int k) => match ixN ds.length k with
    | some j => some (e.set i (.ow (.lst (ds.set j d))))
    | none => none
  | _, _ => none
mutual
def ev (C : Calls) : E → En → Res Ent
  | .lit d, e => .ok (.fz d) e
  | .con d, e => .ok (.fz d) e
  | .var i, e => match e[i]? with
    | some (.fz d) => .ok (.fz d) e
    | some (.ow d) => .ok (.fz d) (e.set i (.fz d))
    | _ => .no
  | .tup es, e => (evs C es e).bind fun ds e => if ds.length ≤ sizeLine then .ok (.fz (.tup ds)) e else .no
  | .lst es, e => (evs C es e).bind fun ds e => if ds.length ≤ sizeLine then .ok (.ow (.lst ds)) e else .no
  | .pn f es, e => (evOs C es e).bind fun xs e => onD f (allD e xs) e
  | .and a b, e => (ev C a e).bind fun r e => (onB r e).bind fun t e => if t = true then ev C b e else .ok r e
  | .or a b, e => (ev C a e).bind fun r e => (onB r e).bind fun t e => if t = true then .ok r e else ev C b e
  | .not a, e => (opnd (ev C a) a e).bind fun x e => (onB (x.ent e) e).bind fun b e => .ok (.fz (.bl (!b))) e
  | .ite c a b, e => (evT C c e).bind fun t e => if t = true then ev C a e else ev C b e
  | .chain f g a b c, e => (opnd (ev C a) a e).bind fun x e => (opnd (ev C b) b e).bind fun y e => (onD f (allD e [x, y]) e).bind fun r e => (boolE r e).bind fun t e =>
      if t = true then (opnd (ev C c) c e).bind fun z e => onD g (allD e [y, z]) e else .ok (.fz (.bl false)) e
  | .call f ms es, e => (evAs C es ms e).bind fun xs e => callWith C f xs e
  | .comp own tg ik ies cs elt, e => (evs C ies e).bind fun ds e => match ik ds with
    | none => .no
    | some xs => (compLoop tg own (evTs C cs) (frozen (ev C elt)) xs [] e).bind fun ds e' => .ok (.ow (.lst ds)) (backE e e' own)
  | .popL i, e => match ownL e i with
    | some ds => popLast i ds e
    | none => .no
  | .popA i ix, e => match ownL e i with
    | some _ => (ev C ix e).bind fun r e => popAt i r e
    | none => .no
  | .sl a lo hi, e => (opnd (ev C a) a e).bind fun x e => (evP C lo e).bind fun l e => (evP C hi e).bind fun h e => onSl l h (x.ent e) e
/-- a slice's part -/
def evP (C : Calls) : List E → En → Res (Option Int)
  | [], e => .ok none e
  | a :: _, e => (ev C a e).bind intE
/-- items, frozen as they come -/
def evs (C : Calls) : List E → En → Res (List D)
  | [], e => .ok [] e
  | a :: as, e => (frozen (ev C a) e).bind fun d e => (evs C as e).bind fun ds e => .ok (d :: ds) e
/-- operands -/
def evOs (C : Calls) : List E → En → Res (List Opd)
  | [], e => .ok [] e
  | a :: as, e => (opnd (ev C a) a e).bind fun x e => (evOs C as e).bind fun xs e => .ok (x :: xs) e
/-- arguments: an object of one's own is handed on where the mark is true -/
def evAs (C : Calls) : List E → List Bool → En → Res (List Opd)
  | [], _, e => .ok [] e
  | a :: as, ms, e => (match ms.headD false with
      | true => opnd (ev C a) a e
      | false => (frozen (ev C a) e).bind fun d e => .ok (.vl (.fz d)) e).bind fun x e => (evAs C as ms.tail e).bind fun xs e => .ok (x :: xs) e
def evT (C : Calls) : T → En → Res Bool
  | .e a, e => (opnd (ev C a) a e).bind fun x e => onB (x.ent e) e
  | .and a b, e => (evT C a e).bind fun c e => if c = true then evT C b e else .ok false e
  | .or a b, e => (evT C a e).bind fun c e => if c = true then .ok true e else evT C b e
  | .not a, e => (evT C a e).bind fun c e => .ok (!c) e
def evTs (C : Calls) : List T → En → Res Bool
  | [], e => .ok true e
  | a :: as, e => (evT C a e).bind fun c e => if c = true then evTs C as e else .ok false e
end

inductive S where
  | expr (a : E) | set (i : Nat) (a : E) | unp (ts : List Tg) (a : E) | par (i j : Nat) (a b : E)
  | app (i : Nat) (a : E) | ext (i : Nat) (a : E) | sti (i : Nat) (ix a : E)
  | ite (c : T) (p q : List S) | for_ (tg : Tg) (ik : List D → Option (List D)) (ies : List E) (b : List S) | whl (c : T) (b : List S)
  | ret (a : E) | retN | pass | brk | cont
  | rse (c : Str) (es : List E)
inductive SR where
  | nx (e : En) | rt (r : Ent) (e : En) | bk (e : En) | ct (e : En) | ex (c : Str) (ps : List D) (e : En) | no
def SR.opt : Option En → SR
  | some e => .nx e
  | none => .no
def Res.sr {α : Type} (r : Res α) (f : α → En → SR) : SR :=
  match r with
  | .ok a e => f a e
  | .ex c ps e => .ex c ps e
  | .no => .no
/-- a turn's end: on with k -/
def turn (r : SR) (k : En → SR) : SR :=
  match r with
  | .nx e => k e
  | .ct e => k e
  | .bk e => .nx e
  | .rt r e => .rt r e
  | .ex c ps e => .ex c ps e
  | .no => .no
def forLoop (pw : List Nat) (tg : Tg) (b : En → SR) : List D → En → SR
  | [], e => .nx e
  | x :: xs, e => match Tg.asg pw tg x e with
    | none => .no
    | some e1 => turn (b e1) (forLoop pw tg b xs)
def whlLoop (t : En → Res Bool) (b : En → SR) : Nat → En → SR
  | 0, _ => .no
  | n + 1, e => (t e).sr fun c e1 => if c = true then turn (b e1) (whlLoop t b n) else .nx e1
def whlFuel : Nat := 1000000
mutual
def exec (C : Calls) (pw : List Nat) : S → En → SR
  | .expr a, e => (ev C a e).sr fun _ e => .nx e
  | .set i a, e => (ev C a e).sr fun r e => if i ∈ pw then .no else .nx (e.set i r)
  | .unp ts a, e => (frozen (ev C a) e).sr fun d e => match Tg.asg pw (.tp ts) d e with
    | some e => .nx e
    | none => .no
  | .par i j a b, e => (ev C a e).sr fun r e => (ev C b e).sr fun u e => if i ∈ pw ∨ j ∈ pw then .no else .nx ((e.set i r).set j u)
  | .app i a, e => match ownL e i with
    | some _ => (frozen (ev C a) e).sr fun d e => SR.opt (appL i d e)
    | none => .no
  | .ext i a, e => match ownL e i with
    | some _ => (frozen (ev C a) e).sr fun d e => SR.opt (extL i d e)
    | none => .no
  | .sti i ix a, e => (frozen (ev C a) e).sr fun d e => match ownL e i with
    | some _ => (ev C ix e).sr fun r e => SR.opt (stiL i d r e)
    | none => .no
  | .ite c p q, e => (evT C c e).sr fun t e => if t = true then execs C pw p e else execs C pw q e
  | .for_ tg ik ies b, e => (evs C ies e).sr fun ds e => match ik ds with
    | none => .no
    | some xs => forLoop pw tg (execs C pw b) xs e
  | .whl c b, e => whlLoop (evT C c) (execs C pw b) whlFuel e
  | .ret a, e => match isVar a with
    | some i => match e[i]? with
      | some (.fz d) => .rt (.fz d) e
      | some (.ow d) => .rt (.ow d) (e.set i .un)
      | _ => .no
    | none => (ev C a e).sr fun r e => .rt r e
  | .retN, e => .rt (.fz .non) e
  | .pass, e => .nx e
  | .brk, e => .bk e
  | .cont, e => .ct e
  | .rse c es, e => (evs C es e).sr fun ds e => .ex c ds e
def execs (C : Calls) (pw : List Nat) : List S → En → SR
  | [], e => .nx e
  | s :: ss, e => match exec C pw s e with
    | .nx e1 => execs C pw ss e1
    | r => r
end

structure FD where
  np : Nat
  nl : Nat
  pw : List Nat
  body : List S
def outsOf (fd : FD) (e : En) : En := (List.range fd.np).map fun i => if i ∈ fd.pw then (e[i]?).getD .un else .un
def finish (fd : FD) : SR → CRes
  | .nx e => .ok (.fz .non) (outsOf fd e)
  | .rt r e => .ok r (outsOf fd e)
  | .ex c ps e => .ex c ps (outsOf fd e)
  | _ => .no
def run (tbl : List FD) : Nat → Calls
  | 0, _, _ => .no
  | k + 1, f, args => match tbl[f]? with
    | none => .no
    | some fd => if args.length = fd.np then finish fd (execs (run tbl k) fd.pw fd.body (args ++ List.replicate (fd.nl - fd.np) .un)) else .no
end PI

end

section
set_option maxRecDepth 100000
set_option maxHeartbeats 1000000
/-! Pi3: the relation's moves. -/
namespace PI
open PySem PySem.Spec PyProof.Rows L2

section
variable {K : PySem.W.Frag} {F H : Hp} {env : En} {σ : L2.St}
theorem getElem?_set_cases {α : Type} {l : List α} {i j : Nat} {x y : α} (h : (l.set i x)[j]? = some y) : (j = i ∧ y = x ∧ i < l.length) ∨ (j ≠ i ∧ l[j]? = some y) := by
  by_cases e : j = i
  · subst e
    have hl : j < l.length := by have := (List.getElem?_eq_some_iff.mp h).1; simpa using this
    rw [List.getElem?_set_self hl] at h
    exact .inl ⟨rfl, (Option.some.inj h).symm, hl⟩
  · rw [List.getElem?_set_ne (Ne.symm e)] at h
    exact .inr ⟨e, h⟩
/-- entries forgotten -/
theorem St.forget (S : St K F env σ H) (i : Nat) : St K F (env.set i .un) σ H := by
  refine ⟨by simp [S.len], S.le, fun j r e hr => ?_, fun j k d e a h1 h2 h3 h4 => ?_⟩
  · rcases getElem?_set_cases e with ⟨_, h, _⟩ | ⟨_, h⟩
    · exact (hr h).elim
    · exact S.ent j r h hr
  · rcases getElem?_set_cases h1 with ⟨_, h, _⟩ | ⟨_, h1⟩
    · cases h
    · rcases getElem?_set_cases h2 with ⟨_, h, _⟩ | ⟨_, h2⟩
      · cases h
      · exact S.sep j k d e a h1 h2 h3 h4
theorem owned_forget {i : Nat} {a : Addr} (h : Owned (env.set i .un) σ a) : Owned env σ a := by
  obtain ⟨j, d, h1, h2⟩ := h
  rcases getElem?_set_cases h1 with ⟨_, h, _⟩ | ⟨_, h1⟩
  · cases h
  · exact ⟨j, d, h1, h2⟩
theorem Ext.forget (i : Nat) : Ext F env σ H F (env.set i .un) σ H :=
  ⟨FLe.refl, fun _ _ h _ => h, fun _ q => .inl (owned_forget q), fun _ _ h h' => by rw [h] at h'; cases h'⟩
/-- the last part dropped -/
theorem Ext.left {pe : En} {ps : L2.St} (hl : env.length = σ.length) : Ext F (env ++ pe) (σ ++ ps) H F env σ H :=
  ⟨FLe.refl, fun _ _ h _ => h, fun _ q => .inl ((owned_app hl).mpr (.inl q)), fun _ _ h h' => by rw [h] at h'; cases h'⟩
theorem Ext.dropR {F' H' : Hp} {env' pe : En} {σ' ps : L2.St} (hl : env'.length = σ'.length) (x : Ext F env σ H F' (env' ++ pe) (σ' ++ ps) H') : Ext F env σ H F' env' σ' H' := x.trans (Ext.left hl)

/-- one's own object is given away: nobody writes it any more -/
theorem St.freeze (S : St K F env σ H) {i : Nat} {d : D} (e : env[i]? = some (.ow d)) : ∃ F', St K F' (env.set i (.fz d)) σ H ∧ Ext F env σ H F' (env.set i (.fz d)) σ H := by
  obtain ⟨v, h1, a, rfl, h3, h4⟩ := S.ent i _ e (by simp)
  obtain ⟨o, ho⟩ := h4.some
  have hF : FLe F (upd F a o) := fun b u hb => by rw [upd_ne (ne_of_none hb h3)]; exact hb
  have hH : FLe (upd F a o) H := fun b u hb => by
    by_cases eb : b = a
    · subst eb; rw [upd_same] at hb; cases hb; exact ho
    · rw [upd_ne eb] at hb; exact S.le b u hb
  have rep : Rep K (upd F a o) d (.ref a) := by
    cases d with
    | lst ds =>
      obtain ⟨vs, q1, q2⟩ := h4
      rw [ho] at q1; cases q1
      exact ⟨a, vs, rfl, upd_same, RepAll.mono hF _ _ q2⟩
    | _ => exact h4.elim
  refine ⟨upd F a o, ⟨by simp [S.len], hH, fun j r e' hr => ?_, fun j k d1 d2 b q1 q2 q3 q4 => ?_⟩, ⟨hF, fun _ _ h _ => h, fun b q => ?_, fun b u q1 q2 => ?_⟩⟩
  · rcases getElem?_set_cases e' with ⟨rfl, rfl, _⟩ | ⟨ne, e'⟩
    · exact ⟨_, h1, rep⟩
    · obtain ⟨v', q1, q2⟩ := S.ent j r e' hr
      refine ⟨v', q1, ?_⟩
      cases r with
      | un => trivial
      | fz d' => exact Rep.mono hF _ _ q2
      | ow d' =>
        obtain ⟨b, rfl, q3, q4⟩ := q2
        have nb : b ≠ a := by
          rintro rfl
          exact ne (S.sep j i d' d b e' e q1 h1)
        exact ⟨b, rfl, by rw [upd_ne nb]; exact q3, q4.mono hF rfl⟩
  · rcases getElem?_set_cases q1 with ⟨_, z, _⟩ | ⟨_, q1⟩
    · cases z
    · rcases getElem?_set_cases q2 with ⟨_, z, _⟩ | ⟨_, q2⟩
      · cases z
      · exact S.sep j k d1 d2 b q1 q2 q3 q4
  · obtain ⟨j, d', q1, q2⟩ := q
    rcases getElem?_set_cases q1 with ⟨_, z, _⟩ | ⟨_, q1⟩
    · cases z
    · exact .inl ⟨j, d', q1, q2⟩
  · by_cases eb : b = a
    · subst eb; exact .inl ⟨i, d, e, h1⟩
    · rw [upd_ne eb, q2] at q1; cases q1
/-- one's own list is written -/
theorem St.write (S : St K F env σ H) {i : Nat} {ds ds' : List D} {a : Addr} {vs' : List V} (e : env[i]? = some (.ow (.lst ds))) (h1 : σ[i]? = some (some (.ref a))) (r : RepAll K F ds' vs') :
    St K F (env.set i (.ow (.lst ds'))) σ (upd H a (.lst vs')) ∧ Ext F env σ H F (env.set i (.ow (.lst ds'))) σ (upd H a (.lst vs')) := by
  obtain ⟨v, h1', a', hv, h3, h4⟩ := S.ent i _ e (by simp)
  rw [h1] at h1'; cases h1'; cases hv
  refine ⟨⟨by simp [S.len], fun b u hb => by rw [upd_ne (ne_of_none hb h3)]; exact S.le b u hb, fun j r' e' hr => ?_, fun j k d1 d2 b q1 q2 q3 q4 => ?_⟩, ⟨FLe.refl, fun b o hb n => ?_, fun b q => ?_, fun _ _ h h' => by rw [h] at h'; cases h'⟩⟩
  · rcases getElem?_set_cases e' with ⟨rfl, rfl, _⟩ | ⟨ne, e'⟩
    · exact ⟨_, h1, a, rfl, h3, vs', upd_same, r⟩
    · obtain ⟨v', q1, q2⟩ := S.ent j r' e' hr
      refine ⟨v', q1, ?_⟩
      cases r' with
      | un => trivial
      | fz d' => exact q2
      | ow d' =>
        obtain ⟨b, rfl, q3, q4⟩ := q2
        have nb : b ≠ a := by
          rintro rfl
          exact ne (S.sep j i d' _ b e' e q1 h1)
        exact ⟨b, rfl, q3, q4.mono FLe.refl (upd_ne nb)⟩
  · have hi : i < env.length := (List.getElem?_eq_some_iff.mp e).1
    have own : ∀ (j : Nat) (d : D), (env.set i (.ow (.lst ds')))[j]? = some (.ow d) → ∃ d', env[j]? = some (.ow d') := fun j d q => by
      rcases getElem?_set_cases q with ⟨rfl, z, _⟩ | ⟨_, q⟩
      · exact ⟨_, e⟩
      · exact ⟨_, q⟩
    obtain ⟨d1', q1⟩ := own j d1 q1
    obtain ⟨d2', q2⟩ := own k d2 q2
    exact S.sep j k d1' d2' b q1 q2 q3 q4
  · have nb : b ≠ a := by
      rintro rfl
      exact n ⟨i, _, e, h1⟩
    rw [upd_ne nb]; exact hb
  · obtain ⟨j, d', q1, q2⟩ := q
    rcases getElem?_set_cases q1 with ⟨rfl, z, _⟩ | ⟨_, q1⟩
    · exact .inl ⟨j, _, e, q2⟩
    · exact .inl ⟨j, d', q1, q2⟩
/-- a result is stored -/
theorem St.store {r : Ent} {v : V} (hl : env.length = σ.length) (S : St K F (env ++ [r]) (σ ++ [some v]) H) (i : Nat) : St K F (env.set i r) (σ.set i (some v)) H ∧ Ext F (env ++ [r]) (σ ++ [some v]) H F (env.set i r) (σ.set i (some v)) H := by
  have at_ : ∀ (j : Nat) (q : Ent), (env.set i r)[j]? = some q → ∃ j', (env ++ [r])[j']? = some q ∧ (σ ++ [some v])[j']? = (σ.set i (some v))[j]? ∧ ((j = i ∧ j' = env.length) ∨ (j ≠ i ∧ j' = j)) := fun j q e => by
    rcases getElem?_set_cases e with ⟨rfl, rfl, h⟩ | ⟨ne, e⟩
    · refine ⟨env.length, by simp, ?_, .inl ⟨rfl, rfl⟩⟩
      rw [List.getElem?_set_self (by omega), hl]; simp
    · have hj : j < env.length := (List.getElem?_eq_some_iff.mp e).1
      refine ⟨j, by rw [List.getElem?_append_left hj]; exact e, ?_, .inr ⟨ne, rfl⟩⟩
      rw [List.getElem?_append_left (by omega), List.getElem?_set_ne (Ne.symm ne)]
  refine ⟨⟨by simp [hl], S.le, fun j q e hq => ?_, fun j k d1 d2 b q1 q2 q3 q4 => ?_⟩, ⟨FLe.refl, fun _ _ h _ => h, fun b q => ?_, fun _ _ h h' => by rw [h] at h'; cases h'⟩⟩
  · obtain ⟨j', h1, h2, _⟩ := at_ j q e
    obtain ⟨v', h3, h4⟩ := S.ent j' q h1 hq
    exact ⟨v', h2.symm.trans h3, h4⟩
  · obtain ⟨j', h1, h2, c1⟩ := at_ j _ q1
    obtain ⟨k', h3, h4, c2⟩ := at_ k _ q2
    have hj : j < env.length := by have := (List.getElem?_eq_some_iff.mp q1).1; simpa using this
    have hk : k < env.length := by have := (List.getElem?_eq_some_iff.mp q2).1; simpa using this
    have := S.sep j' k' d1 d2 b h1 h3 (h2.trans q3) (h4.trans q4)
    omega
  · obtain ⟨j, d, q1, q2⟩ := q
    obtain ⟨j', h1, h2, _⟩ := at_ j _ q1
    exact .inl ⟨j', d, h1, h2.trans q2⟩
theorem Res.bind_ok {α β : Type} {r : Res α} {f : α → En → Res β} {b : β} {e : En} (h : r.bind f = .ok b e) : ∃ a e1, r = .ok a e1 ∧ f a e1 = .ok b e := by
  cases r with
  | ok a e1 => exact ⟨a, e1, rfl, h⟩
  | ex => cases h
  | no => cases h
end

/-! ### readings -/
/-- what an exception bears -/
def ExOk (K : PySem.W.Frag) (XC : Str → Value → Prop) (F H : Hp) (c : Str) (ps : List D) (cls : Value) (dx : Option Addr) : Prop :=
  XC c cls ∧ ((ps = [] ∧ dx = none) ∨ ∃ p d v f, ps = [p] ∧ dx = some d ∧ H d = some (.xd [(f, v)]) ∧ Rep K F p v)
end PI

end

section
set_option maxRecDepth 100000
set_option maxHeartbeats 1000000
/-! Pi4: readings of expressions. -/
namespace PI
open PySem PySem.Spec PyProof.Rows L2

section
variable {K : PySem.W.Frag} {F H : Hp} {env env' : En} {σ σ' : L2.St}
/-- entries in another order -/
theorem St.re (S : St K F env σ H) (φ : Nat → Nat) (hl : env'.length = σ'.length) (inj : ∀ i j, i < env'.length → j < env'.length → φ i = φ j → i = j)
    (he : ∀ i, i < env'.length → env[φ i]? = env'[i]? ∧ σ[φ i]? = σ'[i]?) : St K F env' σ' H ∧ Ext F env σ H F env' σ' H := by
  have lt : ∀ {i : Nat} {r : Ent}, env'[i]? = some r → i < env'.length := fun h => (List.getElem?_eq_some_iff.mp h).1
  refine ⟨⟨hl, S.le, fun i r e hr => ?_, fun i j d1 d2 a h1 h2 h3 h4 => ?_⟩, ⟨FLe.refl, fun _ _ h _ => h, fun a q => ?_, fun _ _ h h' => by rw [h] at h'; cases h'⟩⟩
  · obtain ⟨v, h1, h2⟩ := S.ent (φ i) r ((he i (lt e)).1.trans e) hr
    exact ⟨v, (he i (lt e)).2.symm.trans h1, h2⟩
  · exact inj i j (lt h1) (lt h2) (S.sep _ _ d1 d2 a ((he i (lt h1)).1.trans h1) ((he j (lt h2)).1.trans h2) ((he i (lt h1)).2.trans h3) ((he j (lt h2)).2.trans h4))
  · obtain ⟨i, d, h1, h2⟩ := q
    exact .inl ⟨φ i, d, (he i (lt h1)).1.trans h1, (he i (lt h1)).2.trans h2⟩
theorem app3 {α : Type} {l a b : List α} {i : Nat} (h1 : ¬ i < l.length) (h2 : i < l.length + b.length) : (l ++ (a ++ b))[i + a.length]? = (l ++ (b ++ a))[i]? := by
  rw [List.getElem?_append_right (by omega), List.getElem?_append_right (by omega), List.getElem?_append_right (by omega), List.getElem?_append_left (by omega)]
  congr 1
  omega
theorem app4 {α : Type} {l a b : List α} {i : Nat} (h2 : ¬ i < l.length + b.length) (h3 : i < l.length + b.length + a.length) : (l ++ (a ++ b))[i - b.length]? = (l ++ (b ++ a))[i]? := by
  rw [List.getElem?_append_right (l₁ := l) (by omega), List.getElem?_append_left (l₁ := a) (by omega), List.getElem?_append_right (l₁ := l) (by omega), List.getElem?_append_right (l₁ := b) (by omega)]
  congr 1
  omega
theorem St.swap {a b : En} {x y : L2.St} (hl : env.length = σ.length) (ha : a.length = x.length) (S : St K F (env ++ (a ++ b)) (σ ++ (x ++ y)) H) :
    St K F (env ++ (b ++ a)) (σ ++ (y ++ x)) H ∧ Ext F (env ++ (a ++ b)) (σ ++ (x ++ y)) H F (env ++ (b ++ a)) (σ ++ (y ++ x)) H := by
  have hb : b.length = y.length := by have := S.len; simp only [List.length_append] at this; omega
  refine S.re (fun i => if i < env.length then i else if i < env.length + b.length then i + a.length else i - b.length) (by simp only [List.length_append]; omega) (fun i j hi hj e => ?_) (fun i hi => ?_)
  · simp only [List.length_append] at hi hj
    split at e <;> split at e <;> (try split at e) <;> (try split at e) <;> omega
  · simp only [List.length_append] at hi
    split
    · rename_i h
      rw [List.getElem?_append_left h, List.getElem?_append_left h, List.getElem?_append_left (by omega), List.getElem?_append_left (by omega)]
      exact ⟨rfl, rfl⟩
    · rename_i h
      split
      · rename_i h2
        exact ⟨app3 h h2, by rw [ha]; exact app3 (by omega) (by omega)⟩
      · rename_i h2
        exact ⟨app4 h2 (by omega), by rw [hb]; exact app4 (by omega) (by omega)⟩
end

/-- what an evaluation leaves: the frame's entries, the results beside them -/
structure Post (K : PySem.W.Frag) (F : Hp) (env : En) (σ : L2.St) (H : Hp) (F' : Hp) (env' pe : En) (vs : List V) (H' : Hp) : Prop where
  st : St K F' (env' ++ pe) (σ ++ vs.map some) H'
  ext : Ext F env σ H F' (env' ++ pe) (σ ++ vs.map some) H'
  pl : pe.length = vs.length
section
variable {K : PySem.W.Frag} {F F1 F2 H H1 H2 : Hp} {env env1 env2 pe pe1 pe2 : En} {σ : L2.St} {vs vs1 vs2 : List V}
theorem Post.len (p : Post K F env σ H F1 env1 pe vs H1) : env1.length = σ.length := by
  have := p.st.len
  have := p.pl
  simp only [List.length_append, List.length_map] at *
  omega
theorem Post.base (p : Post K F env σ H F1 env1 pe vs H1) : St K F1 env1 σ H1 := p.st.left p.len
theorem Post.bext (p : Post K F env σ H F1 env1 pe vs H1) : Ext F env σ H F1 env1 σ H1 := p.ext.trans (Ext.left p.len)
theorem Post.nil (S : St K F env σ H) : Post K F env σ H F env [] [] H := ⟨by simpa using S, by simpa using Ext.refl, rfl⟩
theorem Post.of (S : St K F1 env1 σ H1) (x : Ext F env σ H F1 env1 σ H1) : Post K F env σ H F1 env1 [] [] H1 := ⟨by simpa using S, by simpa using x, rfl⟩
/-- one evaluation behind another -/
theorem Post.seq (p : Post K F env σ H F1 env1 pe1 vs1 H1) (q : Post K F1 env1 σ H1 F2 env2 pe2 vs2 H2) : Post K F env σ H F2 env2 (pe1 ++ pe2) (vs1 ++ vs2) H2 := by
  have fr : St K F2 ((env2 ++ pe2) ++ pe1) ((σ ++ vs2.map some) ++ vs1.map some) H2 := St.frame p.st p.len q.st q.ext
  have fx : Ext F1 (env1 ++ pe1) (σ ++ vs1.map some) H1 F2 ((env2 ++ pe2) ++ pe1) ((σ ++ vs2.map some) ++ vs1.map some) H2 := Ext.frame p.len (by have := q.pl; have := q.len; simp only [List.length_append, List.length_map]; omega) q.ext
  rw [List.append_assoc, List.append_assoc] at fr fx
  obtain ⟨s, x⟩ := fr.swap q.len (by simpa using q.pl)
  refine ⟨by rw [List.map_append]; exact s, (p.ext.trans fx).trans (by rw [List.map_append (l₁ := vs1)]; exact x), by have := p.pl; have := q.pl; simp only [List.length_append]; omega⟩
/-- the first results dropped -/
theorem Post.drop (p : Post K F env σ H F1 env1 pe1 vs1 H1) (q : Post K F1 env1 σ H1 F2 env2 pe2 vs2 H2) : Post K F env σ H F2 env2 pe2 vs2 H2 := ⟨q.st, p.bext.trans q.ext, q.pl⟩
/-- from here on -/
theorem Post.then (S : St K F1 env1 σ H1) (x : Ext F env σ H F1 env1 σ H1) (q : Post K F1 env1 σ H1 F2 env2 pe2 vs2 H2) : Post K F env σ H F2 env2 pe2 vs2 H2 := ⟨q.st, x.trans q.ext, q.pl⟩
theorem Post.new {r : Ent} {v : V} (S : St K F env σ H) (n : New K F H F1 H1 r v) : Post K F env σ H F1 env [r] [v] H1 := ⟨(S.new n).1, (S.new n).2, rfl⟩
end

/-- readable: frozen, or one's own -/
def Rdb (K : PySem.W.Frag) (F H : Hp) (d : D) (v : V) : Prop := Rep K F d v ∨ ∃ a, v = .ref a ∧ F a = none ∧ OwnAt K F H a d
def RdAll (K : PySem.W.Frag) (F H : Hp) : List D → List V → Prop
  | [], vs => vs = []
  | d :: ds, vs => ∃ v r, vs = v :: r ∧ Rdb K F H d v ∧ RdAll K F H ds r
theorem EntOk.rdb {K : PySem.W.Frag} {F H : Hp} {r : Ent} {v : V} {d : D} (h : EntOk K F H r v) (e : r.d = some d) : Rdb K F H d v := by
  cases r with
  | un => cases e
  | fz _ => cases e; exact .inl h
  | ow _ => cases e; exact .inr h
theorem Rdb.read {K : PySem.W.Frag} {F H : Hp} {v : V} {d : D} (l : FLe F H) (h : Rdb K F H d v) : Rep K H d v := by
  rcases h with h | ⟨a, rfl, _, h⟩
  · exact Rep.mono l _ _ h
  · exact h.read l
theorem RdAll.read {K : PySem.W.Frag} {F H : Hp} (l : FLe F H) : ∀ {ds : List D} {vs : List V}, RdAll K F H ds vs → RepAll K H ds vs
  | [], _, h => h
  | _ :: _, _, ⟨v, r, e, h1, h2⟩ => ⟨v, r, e, h1.read l, RdAll.read l h2⟩
/-- an operand's value -/
def OpdAt (σ : L2.St) (x : Opd) (v : V) : Prop :=
  match x with
  | .sl i => σ[i]? = some (some v)
  | .vl r => r ≠ .un
def OpdsAt (σ : L2.St) : List Opd → List V → Prop
  | [], vs => vs = []
  | x :: xs, vs => ∃ v r, vs = v :: r ∧ OpdAt σ x v ∧ OpdsAt σ xs r
theorem OpdsAt.length {σ : L2.St} : ∀ {xs : List Opd} {vs : List V}, OpdsAt σ xs vs → vs.length = xs.length
  | [], _, h => by cases (show _ = [] from h); rfl
  | _ :: _, _, ⟨v, r, e, _, h⟩ => by subst e; simp [OpdsAt.length h]
section
variable {K : PySem.W.Frag} {F H : Hp} {env : En} {σ : L2.St}
theorem St.opd {x : Opd} {v : V} {ps : List V} {pre : En} (S : St K F (env ++ (pre ++ [x.pe])) (σ ++ ps.map some) H) (hl : env.length = σ.length) (hp : pre.length + 1 = ps.length) (hv : ps[pre.length]? = some v) (o : OpdAt σ x v) {d : D} (e : (x.ent env).d = some d) : Rdb K F H d v := by
  cases x with
  | sl i =>
    replace e : ((env[i]?).getD .un).d = some d := e
    cases q : env[i]? with
    | none => rw [q] at e; cases e
    | some r =>
      rw [q] at e
      have hr : r ≠ .un := by rintro rfl; cases e
      obtain ⟨v', h1, h2⟩ := (S.left hl).ent i r q hr
      have : σ[i]? = some (some v) := o
      rw [this] at h1; cases h1
      exact h2.rdb e
  | vl r =>
    have hr : r ≠ .un := o
    obtain ⟨v', h1, h2⟩ := S.ent (env.length + pre.length) r (by simp [Opd.pe]) hr
    rw [List.getElem?_append_right (by omega), hl, Nat.add_sub_cancel_left, List.getElem?_map, hv] at h1
    cases h1
    exact h2.rdb e
theorem St.opds : ∀ {xs : List Opd} {vs : List V} {pre : En} {ps : List V} {ds : List D}, St K F (env ++ (pre ++ xs.map Opd.pe)) (σ ++ (ps ++ vs).map some) H → env.length = σ.length → pre.length = ps.length → OpdsAt σ xs vs → allD env xs = some ds → RdAll K F H ds vs
  | [], vs, pre, ps, ds, S, hl, hp, o, e => by cases (show vs = [] from o); cases e; rfl
  | x :: xs, vs, pre, ps, ds, S, hl, hp, o, e => by
    obtain ⟨v, r, rfl, o1, o2⟩ := o
    unfold allD at e
    cases e1 : (x.ent env).d with
    | none => rw [e1] at e; simp at e
    | some d =>
      cases e2 : allD env xs with
      | none => rw [e1, e2] at e; simp at e
      | some ds' =>
        rw [e1, e2] at e
        cases e
        have S1 : St K F (env ++ (pre ++ [x.pe])) (σ ++ (ps ++ [v]).map some) H := by
          have : St K F ((env ++ (pre ++ [x.pe])) ++ xs.map Opd.pe) ((σ ++ (ps ++ [v]).map some) ++ r.map some) H := by
            simpa [List.append_assoc] using S
          exact this.left (by simp only [List.length_append, List.length_map, List.length_cons, List.length_nil]; omega)
        refine ⟨v, r, rfl, S1.opd hl (by simp [hp]) (by simp [hp]) o1 e1, ?_⟩
        refine St.opds (pre := pre ++ [x.pe]) (ps := ps ++ [v]) ?_ hl (by simp [hp]) o2 e2
        simpa [List.append_assoc] using S
end

section
variable (K : PySem.W.Frag) (XC : Str → Value → Prop) (C : Calls) (W : WX)
/-- what is asked of an exception -/
def exP (F : Hp) (env : En) (σ : L2.St) (H : Hp) (c : Str) (ps : List D) (env' : En) : Prop :=
  ∀ F' H' cls dx, St K F' env' σ H' → Ext F env σ H F' env' σ H' → ExOk K XC F' H' c ps cls dx → W cls dx σ H'
/-- an evaluation's reading -/
def tM {α : Type} (m : En → Res α) (pe : α → En) (ok : α → L2.St → List V → Prop) (σ : L2.St) (H : Hp) (Q : α → List V → Hp → Prop) : Prop :=
  ∃ F env, St K F env σ H ∧ (m env).wish (fun x env' => ∀ F' H' vs, Post K F env σ H F' env' (pe x) vs H' → ok x σ vs → Q x vs H') fun c ps env' => exP K XC W F env σ H c ps env'
def okR (r : Ent) (_ : L2.St) (vs : List V) : Prop := r ≠ .un ∧ ∃ v, vs = [v]
def okX (x : Opd) (σ : L2.St) (vs : List V) : Prop := ∃ v, vs = [v] ∧ OpdAt σ x v
def one (Q : VK) {α : Type} : α → List V → Hp → Prop := fun _ vs H => ∀ v, vs = [v] → Q v H
def tE (a : E) : TE := fun σ H Q => tM K XC W (ev C a) (fun r => [r]) okR σ H (one Q)
def tF (a : E) : TE := fun σ H Q => tM K XC W (frozen (ev C a)) (fun d => [.fz d]) (fun _ _ vs => ∃ v, vs = [v]) σ H (one Q)
def tO (a : E) : TE := fun σ H Q => tM K XC W (opnd (ev C a) a) (fun x => [x.pe]) okX σ H (one Q)
def tOs (as : List E) : TA := fun σ H Q => tM K XC W (evOs C as) (fun xs => xs.map Opd.pe) (fun xs σ vs => OpdsAt σ xs vs) σ H (fun _ => Q)
def tFs (as : List E) : TA := fun σ H Q => tM K XC W (evs C as) (fun ds => ds.map .fz) (fun ds _ vs => vs.length = ds.length) σ H (fun _ => Q)
def tAs (as : List E) (ms : List Bool) : TA := fun σ H Q => tM K XC W (evAs C as ms) (fun xs => xs.map Opd.pe) (fun xs σ vs => OpdsAt σ xs vs) σ H (fun _ => Q)
def tT (c : T) : TT := fun σ H Q => tM K XC W (evT C c) (fun _ => []) (fun _ _ _ => True) σ H (fun b _ => Q b)
def tTs (cs : List T) : TT := fun σ H Q => tM K XC W (evTs C cs) (fun _ => []) (fun _ _ _ => True) σ H (fun b _ => Q b)
end
end PI

end

section
set_option maxRecDepth 100000
set_option maxHeartbeats 1000000
/-! Pi5: the rules of expressions. -/
namespace PI
open PySem PySem.Spec PyProof.Rows L2

theorem _root_.L2.PE.imp' {X : Cx} {e : Expr} {t t' : TE} (h : PE X e t) (i : ∀ σ H Q, t' σ H Q → t σ H Q) : PE X e t' := ⟨fun pins s σ H Q I q => h.run pins s σ H Q I (i _ _ _ q)⟩
theorem _root_.L2.PT.imp' {X : Cx} {e : Expr} {t t' : TT} (h : PT X e t) (i : ∀ σ H Q, t' σ H Q → t σ H Q) : PT X e t' := ⟨fun pins s σ H Q I q => h.run pins s σ H Q I (i _ _ _ q)⟩
theorem _root_.L2.PW.imp' {X : Cx} {e : Expr} {t t' : TT} (h : PW X e t) (i : ∀ σ H Q, t' σ H Q → t σ H Q) : PW X e t' := ⟨fun wh pins s σ H Q I q => h.run wh pins s σ H Q I (i _ _ _ q)⟩
theorem _root_.L2.PA.imp' {X : Cx} {e : List Expr} {t t' : TA} (h : PA X e t) (i : ∀ σ H Q, t' σ H Q → t σ H Q) : PA X e t' := ⟨fun ps pins s σ H Q I q => h.run ps pins s σ H Q I (i _ _ _ q)⟩
theorem _root_.L2.PTs.imp' {X : Cx} {e : List Expr} {t t' : TT} (h : PTs X e t) (i : ∀ σ H Q, t' σ H Q → t σ H Q) : PTs X e t' := ⟨fun pins s σ H Q I q => h.run pins s σ H Q I (i _ _ _ q)⟩

section
variable {K : PySem.W.Frag} {F H : Hp} {env : En} {σ : L2.St} {vs : List V} {ds : List D} {p : Addr}
theorem new_scal {d : D} {v : V} (l : FLe F H) (r : Rep K F d v) : New K F H F H (.fz d) v :=
  { le := FLe.refl, le' := l, same := fun _ _ h => h, new := fun _ _ h h' => by rw [h] at h'; cases h'
    ent := r, own := fun _ h => by cases h }
theorem FLe.none {a : Addr} (l : FLe F H) (h : H a = Option.none) : F a = Option.none := by
  cases q : F a with
  | none => rfl
  | some o => rw [l a o q] at h; cases h
theorem FLe.upd {o : HO} (l : FLe F H) (h : H p = Option.none) : FLe F (upd F p o) := fun b u hb => by rw [upd_ne (ne_of_none hb (l.none h))]; exact hb
theorem FLe.upd2 {o : HO} (l : FLe F H) : FLe (L2.upd F p o) (L2.upd H p o) := fun b u hb => by
  by_cases e : b = p
  · subst e; rw [upd_same] at hb ⊢; exact hb
  · rw [upd_ne e] at hb ⊢; exact l b u hb
theorem same_upd' {o : HO} (h : H p = none) : Same H (upd H p o) := fun b x e => by
  rw [upd_ne (ne_of_none e h)]; exact e
theorem new_tup (l : FLe F H) (h : H p = none) (r : RepAll K F ds vs) : New K F H (upd F p (.tup vs)) (upd H p (.tup vs)) (.fz (.tup ds)) (.ref p) :=
  { le := l.upd h, le' := l.upd2, same := same_upd' h
    new := fun b o q n => by
      by_cases e : b = p
      · subst e; exact h
      · rw [upd_ne e, n] at q; cases q
    ent := ⟨p, vs, rfl, SqT.of upd_same, RepAll.mono (l.upd h) _ _ r⟩
    own := fun _ q => by cases q }
theorem new_lst (l : FLe F H) (h : H p = none) (r : RepAll K F ds vs) : New K F H F (upd H p (.lst vs)) (.ow (.lst ds)) (.ref p) :=
  { le := FLe.refl, same := same_upd' h
    le' := fun b o q => by rw [upd_ne (ne_of_none (l b o q) h)]; exact l b o q
    new := fun _ _ q n => by rw [q] at n; cases n
    ent := ⟨p, rfl, l.none h, vs, upd_same, r⟩
    own := fun _ _ => ⟨p, rfl, h⟩ }
/-- frozen results: their values -/
theorem St.frozen (S : St K F (env ++ ds.map .fz) (σ ++ vs.map some) H) (hl : env.length = σ.length) (hv : vs.length = ds.length) : RepAll K F ds vs := by
  have go : ∀ (ds : List D) (vs : List V) (n : Nat), vs.length = ds.length → (∀ (i : Nat) (d : D), ds[i]? = some d → ∃ v : V, vs[i]? = some v ∧ Rep K F d v) → RepAll K F ds vs := by
    intro ds
    induction ds with
    | nil => intro vs n h _; exact List.length_eq_zero_iff.mp h
    | cons d ds ih =>
      intro vs n h g
      cases vs with
      | nil => cases h
      | cons v vs =>
        obtain ⟨v', e, r⟩ := g 0 d rfl
        cases e
        exact ⟨v, vs, rfl, r, ih vs n (by simpa using h) fun i d' e' => by
          obtain ⟨v', e2, r2⟩ := g (i + 1) d' (by simpa using e')
          exact ⟨v', by simpa using e2, r2⟩⟩
  refine go ds vs 0 hv fun i d e => ?_
  have hi : i < ds.length := (List.getElem?_eq_some_iff.mp e).1
  obtain ⟨v, h1, h2⟩ := S.ent (env.length + i) (.fz d) (by rw [List.getElem?_append_right (by omega), Nat.add_sub_cancel_left, List.getElem?_map, e]; rfl) (by simp)
  rw [List.getElem?_append_right (by omega), hl, Nat.add_sub_cancel_left, List.getElem?_map] at h1
  cases q : vs[i]? with
  | none => rw [q] at h1; cases h1
  | some u => rw [q] at h1; cases h1; exact ⟨v, rfl, h2⟩
theorem St.lastEnt {r : Ent} {v : V} (S : St K F (env ++ [r]) (σ ++ [some v]) H) (hl : env.length = σ.length) (hr : r ≠ .un) : EntOk K F H r v := by
  obtain ⟨v', h1, h2⟩ := S.ent env.length r (by simp) hr
  rw [hl] at h1; simp at h1
  subst h1
  exact h2
end

section
variable {X : Cx} {XC : Str → Value → Prop} {C : Calls} {W : WX}

theorem tM_ok {K : PySem.W.Frag} {α : Type} {m : En → Res α} {pe : α → En} {ok : α → L2.St → List V → Prop} {σ : L2.St} {H : Hp} {Q : α → List V → Hp → Prop} {F : Hp} {env : En} (S : St K F env σ H) {x : α} {env' : En}
    (e : m env = .ok x env') (h : ∀ F' H' vs, Post K F env σ H F' env' (pe x) vs H' → ok x σ vs → Q x vs H') : tM K XC W m pe ok σ H Q := ⟨F, env, S, by rw [e]; exact h⟩
theorem tM_ex {K : PySem.W.Frag} {α : Type} {m : En → Res α} {pe : α → En} {ok : α → L2.St → List V → Prop} {σ : L2.St} {H : Hp} {Q : α → List V → Hp → Prop} {F : Hp} {env : En} (S : St K F env σ H) {c : Str} {ps : List D} {env' : En}
    (e : m env = .ex c ps env') (h : exP K XC W F env σ H c ps env') : tM K XC W m pe ok σ H Q := ⟨F, env, S, by rw [e]; exact h⟩
theorem exP.behind {K : PySem.W.Frag} {F F1 : Hp} {env env1 env2 pe : En} {σ : L2.St} {H H1 : Hp} {vs : List V} {c : Str} {ps : List D} (p : Post K F env σ H F1 env1 pe vs H1) (h : exP K XC W F env σ H c ps env2) : exP K XC W F1 env1 σ H1 c ps env2 :=
  fun F' H' cls dx S x e => h F' H' cls dx S (p.bext.trans x) e
/-- m, then f: the reading of m whose wish is that of f -/
theorem tM_bind {K : PySem.W.Frag} {α β : Type} {m : En → Res α} {f : α → En → Res β} {peα : α → En} {okα : α → L2.St → List V → Prop} {peβ : β → En} {okβ : β → L2.St → List V → Prop} {σ : L2.St} {H : Hp} {Q : β → List V → Hp → Prop} {Q1 : α → List V → Hp → Prop}
    (h : tM K XC W (fun e => (m e).bind f) peβ okβ σ H Q)
    (g : ∀ (F : Hp) (env : En) (F1 : Hp) (env1 : En) (x : α) (vs : List V) (H1 : Hp), St K F env σ H → m env = .ok x env1 → Post K F env σ H F1 env1 (peα x) vs H1 → okα x σ vs →
      ((f x env1).wish (fun y env2 => ∀ F2 H2 ws, Post K F env σ H F2 env2 (peβ y) ws H2 → okβ y σ ws → Q y ws H2) fun c ps env2 => exP K XC W F env σ H c ps env2) → Q1 x vs H1) : tM K XC W m peα okα σ H Q1 := by
  obtain ⟨F, env, S, h⟩ := h
  refine ⟨F, env, S, ?_⟩
  cases e : m env with
  | ok x env1 =>
    intro F1 H1 vs P o
    refine g F env F1 env1 x vs H1 S e P o ?_
    dsimp only at h
    rw [e] at h
    exact h
  | ex c ps env1 =>
    dsimp only at h
    rw [e] at h
    exact h
  | no =>
    dsimp only at h
    rw [e] at h
    exact h

/-! ### names and constants -/
theorem t_val {K : PySem.W.Frag} {d : D} {v : V} {m : En → Res Ent} {σ : L2.St} {H : Hp} {Q : VK} (hm : ∀ e, m e = .ok (.fz d) e) (hv : ∀ F, Rep K F d v) (h : tM K XC W m (fun r => [r]) okR σ H (one Q)) : Q v H := by
  obtain ⟨F, env, S, h⟩ := h
  rw [hm] at h
  exact h F H [v] (Post.new S (new_scal S.le (hv F))) ⟨by simp, v, rfl⟩ v rfl
theorem se_int {i j pos} : PE X (.Constant (.int i) j pos) (tE X.K XC C W (.lit (.int i))) := pe_int.imp' fun _ _ _ h => t_val (fun _ => by unfold ev; rfl) (fun _ => by unfold Rep; rfl) h
theorem se_bl {b j pos} : PE X (.Constant (.bool b) j pos) (tE X.K XC C W (.lit (.bl b))) := pe_bl.imp' fun _ _ _ h => t_val (fun _ => by unfold ev; rfl) (fun _ => by unfold Rep; rfl) h
theorem se_non {j pos} : PE X (.Constant .none j pos) (tE X.K XC C W (.lit .non)) := pe_non.imp' fun _ _ _ h => t_val (fun _ => by unfold ev; rfl) (fun _ => by unfold Rep; rfl) h
theorem se_str {x j pos} : PE X (.Constant (.str x) j pos) (tE X.K XC C W (.lit (.str x))) := pe_str.imp' fun _ _ _ h => t_val (fun _ => by unfold ev; rfl) (fun _ => by unfold Rep; rfl) h
theorem se_con {x : Str} {v : V} {u : Value} {pos : Pos} {d : D} (hg : Gl X x) (hm : X.mg x = some u) (r : RelV v u) (hd : ∀ F, Rep X.K F d v) (hdb : (x == ("__debug__" : Str)) = false := by decide) : PE X (.Name x pos) (tE X.K XC C W (.con d)) :=
  (pe_glob hg hm r hdb).imp' fun _ _ _ h => t_val (fun _ => by unfold ev; rfl) hd h
theorem se_var {e : Expr} {i : Nat} (h : PE X e (tVar i)) : PE X e (tE X.K XC C W (.var i)) := h.imp' fun σ H Q h => by
  obtain ⟨F, env, S, h⟩ := h
  rw [show ev C (.var i) env = _ from by unfold ev; rfl] at h
  cases q : env[i]? with
  | none => rw [q] at h; exact h.elim
  | some r =>
    cases r with
    | un => rw [q] at h; exact h.elim
    | fz d =>
      rw [q] at h
      obtain ⟨v, h1, h2⟩ := S.ent i _ q (by simp)
      exact ⟨v, h1, h F H [v] (Post.new S (new_scal S.le h2)) ⟨by simp, v, rfl⟩ v rfl⟩
    | ow d =>
      rw [q] at h
      obtain ⟨F', S', x⟩ := S.freeze q
      have hi : i < env.length := (List.getElem?_eq_some_iff.mp q).1
      obtain ⟨v, h1, h2⟩ := S'.ent i (.fz d) (by rw [List.getElem?_set_self hi]) (by simp)
      exact ⟨v, h1, h F' H [v] (Post.then S' x (Post.new S' (new_scal S'.le h2))) ⟨by simp, v, rfl⟩ v rfl⟩
/-! ### operands -/
theorem se_varO {e : Expr} {i : Nat} (h : PE X e (tVar i)) : PE X e (tO X.K XC C W (.var i)) := h.imp' fun σ H Q h => by
  obtain ⟨F, env, S, h⟩ := h
  rw [show opnd (ev C (.var i)) (.var i) env = _ from by unfold opnd isVar; rfl] at h
  dsimp only at h
  cases q : env[i]? with
  | none => rw [q] at h; exact h.elim
  | some r =>
    cases r with
    | un => rw [q] at h; exact h.elim
    | fz d =>
      rw [q] at h
      obtain ⟨v, h1, h2⟩ := S.ent i _ q (by simp)
      exact ⟨v, h1, h F H [v] (Post.new S (new_scal S.le h2)) ⟨v, rfl, by simp [OpdAt]⟩ v rfl⟩
    | ow d =>
      rw [q] at h
      obtain ⟨v, h1, h2⟩ := S.ent i _ q (by simp)
      refine ⟨v, h1, h F H [v] ⟨?_, ?_, rfl⟩ ⟨v, rfl, h1⟩ v rfl⟩
      · refine ⟨by simp [S.len], S.le, fun j r e hr => ?_, fun j k d1 d2 a q1 q2 q3 q4 => ?_⟩
        · rcases getElem?_app1 e with e | ⟨_, rfl⟩
          · obtain ⟨v', z1, z2⟩ := S.ent j r e hr
            exact ⟨v', by rw [List.getElem?_append_left (List.getElem?_eq_some_iff.mp z1).1]; exact z1, z2⟩
          · exact (hr rfl).elim
        · rcases getElem?_app1 q1 with q1 | ⟨_, z⟩
          · rcases getElem?_app1 q2 with q2 | ⟨_, z⟩
            · have l1 := (List.getElem?_eq_some_iff.mp q1).1
              have l2 := (List.getElem?_eq_some_iff.mp q2).1
              rw [List.getElem?_append_left (by rw [← S.len]; exact l1)] at q3
              rw [List.getElem?_append_left (by rw [← S.len]; exact l2)] at q4
              exact S.sep j k d1 d2 a q1 q2 q3 q4
            · cases z
          · cases z
      · refine ⟨FLe.refl, fun _ _ h _ => h, fun a q => ?_, fun _ _ h h' => by rw [h] at h'; cases h'⟩
        obtain ⟨j, d', q1, q2⟩ := q
        rcases getElem?_app1 q1 with q1 | ⟨_, z⟩
        · have l1 := (List.getElem?_eq_some_iff.mp q1).1
          rw [List.getElem?_append_left (by rw [← S.len]; exact l1)] at q2
          exact .inl ⟨j, d', q1, q2⟩
        · cases z
theorem se_o {e : Expr} {A : E} (h : PE X e (tE X.K XC C W A)) (hA : isVar A = none := by rfl) : PE X e (tO X.K XC C W A) := h.imp' fun σ H Q h => by
  have e1 : (fun e => (ev C A e).bind fun r e => Res.ok (Opd.vl r) e) = opnd (ev C A) A := by
    funext e; unfold opnd; rw [hA]
  refine tM_bind (m := ev C A) (f := fun r e => .ok (.vl r) e) (peβ := fun x => [x.pe]) (okβ := okX) (Q := one Q) (by rw [e1]; exact h) fun F env F1 env1 x vs H1 S em P o g v ev_ => ?_
  obtain ⟨hr, v', rfl⟩ := o
  cases ev_
  exact g F1 H1 [v] P ⟨v, rfl, hr⟩ v rfl
theorem se_f {e : Expr} {A : E} (h : PE X e (tE X.K XC C W A)) : PE X e (tF X.K XC C W A) := h.imp' fun σ H Q h => by
  refine tM_bind (m := ev C A) (f := frz) (peβ := fun d => [.fz d]) (okβ := fun _ _ vs => ∃ v, vs = [v]) (Q := one Q) h fun F env F1 env1 r vs H1 S em P o g v ev_ => ?_
  obtain ⟨hr, v', rfl⟩ := o
  cases ev_
  cases r with
  | un => exact (hr rfl).elim
  | fz d => exact g F1 H1 [v] P ⟨v, rfl⟩ v rfl
  | ow d =>
    obtain ⟨F', S', x⟩ := P.st.freeze (i := env1.length) (d := d) (by simp)
    have es : (env1 ++ [Ent.ow d]).set env1.length (.fz d) = env1 ++ [.fz d] := by simp
    rw [es] at S' x
    exact g F' H1 [v] ⟨S', P.ext.trans x, rfl⟩ ⟨v, rfl⟩ v rfl
end
end PI

end

section
set_option maxRecDepth 100000
set_option maxHeartbeats 1000000
/-! Pi6: lists of operands, displays, prims. -/
namespace PI
open PySem PySem.Spec PyProof.Rows L2
section
variable {X : Cx} {XC : Str → Value → Prop} {C : Calls} {W : WX}

/-- the second reading's start, behind the first -/
theorem tM_next {K : PySem.W.Frag} {β : Type} {m : En → Res β} {peβ : β → En} {okβ : β → L2.St → List V → Prop} {σ : L2.St} {H H1 : Hp} {Q : β → List V → Hp → Prop} {F F1 : Hp} {env env1 pe1 : En} {vs : List V} (P : Post K F env σ H F1 env1 pe1 vs H1)
    (h : (m env1).wish (fun y env2 => ∀ F2 H2 ws, Post K F1 env1 σ H1 F2 env2 (peβ y) ws H2 → okβ y σ ws → Q y ws H2) fun c ps env2 => exP K XC W F env σ H c ps env2) : tM K XC W m peβ okβ σ H1 Q := by
  refine ⟨F1, env1, P.base, ?_⟩
  cases e : m env1 with
  | ok y env2 => rw [e] at h; exact h
  | ex c ps env2 => rw [e] at h; exact h.behind P
  | no => rw [e] at h; exact h

theorem pas_nil : PA X [] (tOs X.K XC C W []) := pa_nil.imp' fun σ H Q h => by
  obtain ⟨F, env, S, h⟩ := h
  rw [show evOs C [] env = .ok [] env from by unfold evOs; rfl] at h
  exact h F H [] (Post.nil S) rfl
theorem pas_cons {e : Expr} {es : List Expr} {A : E} {As : List E} (ha : PE X e (tO X.K XC C W A)) (hr : PA X es (tOs X.K XC C W As)) (hs : starEach (e :: es) X.env = (false, eval e X.env) :: starEach es X.env := by rfl) : PA X (e :: es) (tOs X.K XC C W (A :: As)) :=
  (pa_cons ha hr hs).imp' fun σ H Q h => by
    refine tM_bind (m := opnd (ev C A) A) (f := fun x e => (evOs C As e).bind fun xs e => .ok (x :: xs) e) (peβ := fun xs => xs.map Opd.pe) (okβ := fun xs σ vs => OpdsAt σ xs vs) (Q := fun _ => Q) (by
      have : evOs C (A :: As) = fun e => (opnd (ev C A) A e).bind fun x e => (evOs C As e).bind fun xs e => .ok (x :: xs) e := by funext e; rw [evOs]
      rw [← this]; exact h) fun F env F1 env1 x vs H1 S em P o g v ev_ => ?_
    obtain ⟨v', rfl, o⟩ := o
    cases ev_
    refine tM_next P ?_
    cases e : evOs C As env1 with
    | ok xs env2 =>
      rw [e] at g
      intro F2 H2 ws P2 o2
      exact g F2 H2 (v :: ws) (P.seq P2) ⟨v, ws, rfl, o, o2⟩
    | ex c ps env2 => rw [e] at g; exact g
    | no => rw [e] at g; exact g
theorem pfs_nil : PA X [] (tFs X.K XC C W []) := pa_nil.imp' fun σ H Q h => by
  obtain ⟨F, env, S, h⟩ := h
  rw [show evs C [] env = .ok [] env from by unfold evs; rfl] at h
  exact h F H [] (Post.nil S) rfl
theorem pfs_cons {e : Expr} {es : List Expr} {A : E} {As : List E} (ha : PE X e (tE X.K XC C W A)) (hr : PA X es (tFs X.K XC C W As)) (hs : starEach (e :: es) X.env = (false, eval e X.env) :: starEach es X.env := by rfl) : PA X (e :: es) (tFs X.K XC C W (A :: As)) :=
  (pa_cons (se_f ha) hr hs).imp' fun σ H Q h => by
    change tM X.K XC W (frozen (ev C A)) (fun d => [Ent.fz d]) (fun _ _ vs => ∃ v, vs = [v]) σ H (one _)
    refine tM_bind (m := frozen (ev C A)) (f := fun d e => (evs C As e).bind fun ds e => .ok (d :: ds) e) (peβ := fun ds => ds.map .fz) (okβ := fun ds _ vs => vs.length = ds.length) (Q := fun _ => Q) (by
      have : evs C (A :: As) = fun e => (frozen (ev C A) e).bind fun d e => (evs C As e).bind fun ds e => .ok (d :: ds) e := by funext e; rw [evs]
      rw [← this]; exact h) fun F env F1 env1 x vs H1 S em P o g v ev_ => ?_
    obtain ⟨v', rfl⟩ := o
    cases ev_
    refine tM_next P ?_
    cases e : evs C As env1 with
    | ok xs env2 =>
      rw [e] at g
      intro F2 H2 ws P2 o2
      exact g F2 H2 (v :: ws) (P.seq P2) (by simp [o2])
    | ex c ps env2 => rw [e] at g; exact g
    | no => rw [e] at g; exact g
theorem pra_nil {ms : List Bool} : PA X [] (tAs X.K XC C W [] ms) := pa_nil.imp' fun σ H Q h => by
  obtain ⟨F, env, S, h⟩ := h
  rw [show evAs C [] ms env = .ok [] env from by unfold evAs; rfl] at h
  exact h F H [] (Post.nil S) rfl
/-- an argument by value -/
theorem pra_cons {e : Expr} {es : List Expr} {A : E} {As : List E} {ms : List Bool} (ha : PE X e (tE X.K XC C W A)) (hr : PA X es (tAs X.K XC C W As ms)) (hs : starEach (e :: es) X.env = (false, eval e X.env) :: starEach es X.env := by rfl) : PA X (e :: es) (tAs X.K XC C W (A :: As) (false :: ms)) :=
  (pa_cons (se_f ha) hr hs).imp' fun σ H Q h => by
    change tM X.K XC W (frozen (ev C A)) (fun d => [Ent.fz d]) (fun _ _ vs => ∃ v, vs = [v]) σ H (one _)
    refine tM_bind (m := frozen (ev C A)) (f := fun d e => (evAs C As ms e).bind fun xs e => .ok (.vl (.fz d) :: xs) e) (peβ := fun xs => xs.map Opd.pe) (okβ := fun xs σ vs => OpdsAt σ xs vs) (Q := fun _ => Q) (by
      have : evAs C (A :: As) (false :: ms) = fun e => (frozen (ev C A) e).bind fun d e => (evAs C As ms e).bind fun xs e => .ok (.vl (.fz d) :: xs) e := by
        funext e; rw [evAs]; simp only [List.headD_cons, List.tail_cons]
        cases frozen (ev C A) e <;> rfl
      rw [← this]; exact h) fun F env F1 env1 x vs H1 S em P o g v ev_ => ?_
    obtain ⟨v', rfl⟩ := o
    cases ev_
    refine tM_next P ?_
    cases e : evAs C As ms env1 with
    | ok xs env2 =>
      rw [e] at g
      intro F2 H2 ws P2 o2
      exact g F2 H2 (v :: ws) (P.seq P2) ⟨v, ws, rfl, by simp [OpdAt], o2⟩
    | ex c ps env2 => rw [e] at g; exact g
    | no => rw [e] at g; exact g
/-- an argument that is handed on as one's own -/
theorem pra_own {e : Expr} {es : List Expr} {A : E} {As : List E} {ms : List Bool} (ha : PE X e (tO X.K XC C W A)) (hr : PA X es (tAs X.K XC C W As ms)) (hs : starEach (e :: es) X.env = (false, eval e X.env) :: starEach es X.env := by rfl) : PA X (e :: es) (tAs X.K XC C W (A :: As) (true :: ms)) :=
  (pa_cons ha hr hs).imp' fun σ H Q h => by
    refine tM_bind (m := opnd (ev C A) A) (f := fun x e => (evAs C As ms e).bind fun xs e => .ok (x :: xs) e) (peβ := fun xs => xs.map Opd.pe) (okβ := fun xs σ vs => OpdsAt σ xs vs) (Q := fun _ => Q) (by
      have : evAs C (A :: As) (true :: ms) = fun e => (opnd (ev C A) A e).bind fun x e => (evAs C As ms e).bind fun xs e => .ok (x :: xs) e := by
        funext e; rw [evAs]; simp only [List.headD_cons, List.tail_cons]
      rw [← this]; exact h) fun F env F1 env1 x vs H1 S em P o g v ev_ => ?_
    obtain ⟨v', rfl, o⟩ := o
    cases ev_
    refine tM_next P ?_
    cases e : evAs C As ms env1 with
    | ok xs env2 =>
      rw [e] at g
      intro F2 H2 ws P2 o2
      exact g F2 H2 (v :: ws) (P.seq P2) ⟨v, ws, rfl, o, o2⟩
    | ex c ps env2 => rw [e] at g; exact g
    | no => rw [e] at g; exact g

/-! ### displays -/
theorem se_tup {es : List Expr} {k : Nat} {pos : Pos} {As : List E} (h : PA X es (tFs X.K XC C W As)) : PE X (.Tuple es k pos) (tE X.K XC C W (.tup As)) := (pe_tup h).imp' fun σ H Q h => by
  change tM X.K XC W (evs C As) (fun ds => ds.map .fz) (fun ds _ vs => vs.length = ds.length) σ H (fun _ xs H1 => _)
  refine tM_bind (m := evs C As) (f := fun ds e => if ds.length ≤ sizeLine then .ok (.fz (.tup ds)) e else .no) (peβ := fun r => [r]) (okβ := okR) (Q := one Q) (by
    have : ev C (.tup As) = fun e => (evs C As e).bind fun ds e => if ds.length ≤ sizeLine then .ok (.fz (.tup ds)) e else .no := by funext e; rw [ev]
    rw [← this]; exact h) fun F env F1 env1 ds vs H1 S em P o g => ?_
  by_cases hz : ds.length ≤ sizeLine
  · rw [if_pos hz] at g
    refine ⟨by rw [o]; exact hz, fun p hp => ?_⟩
    exact g _ _ [.ref p] (P.drop (Post.new P.base (new_tup P.base.le hp (P.st.frozen P.len o)))) ⟨by simp, _, rfl⟩ _ rfl
  · rw [if_neg hz] at g; exact g.elim
theorem se_lst {es : List Expr} {pos : Pos} {As : List E} (h : PA X es (tFs X.K XC C W As)) : PE X (.List es pos) (tE X.K XC C W (.lst As)) := (pe_lst h).imp' fun σ H Q h => by
  change tM X.K XC W (evs C As) (fun ds => ds.map .fz) (fun ds _ vs => vs.length = ds.length) σ H (fun _ xs H1 => _)
  refine tM_bind (m := evs C As) (f := fun ds e => if ds.length ≤ sizeLine then .ok (.ow (.lst ds)) e else .no) (peβ := fun r => [r]) (okβ := okR) (Q := one Q) (by
    have : ev C (.lst As) = fun e => (evs C As e).bind fun ds e => if ds.length ≤ sizeLine then .ok (.ow (.lst ds)) e else .no := by funext e; rw [ev]
    rw [← this]; exact h) fun F env F1 env1 ds vs H1 S em P o g => ?_
  by_cases hz : ds.length ≤ sizeLine
  · rw [if_pos hz] at g
    refine ⟨by rw [o]; exact hz, fun p hp => ?_⟩
    exact g _ _ [.ref p] (P.drop (Post.new P.base (new_lst P.base.le hp (P.st.frozen P.len o)))) ⟨by simp, _, rfl⟩ _ rfl
  · rw [if_neg hz] at g; exact g.elim

/-! ### prims -/
/-- the reading of a prim by values -/
def rPn (K : PySem.W.Frag) (f : List D → Option Ent) : List V → Hp → VK → Prop := fun vs H Q =>
  ∃ F ds res, FLe F H ∧ RdAll K F H ds vs ∧ f ds = some res ∧ res ≠ .un ∧ ∀ F' H' v, New K F H F' H' res v → Q v H'
abbrev rP1 (K : PySem.W.Frag) (f : List D → Option Ent) : V → Hp → VK → Prop := fun x => rPn K f [x]
abbrev rP2 (K : PySem.W.Frag) (f : List D → Option Ent) : R2 := fun x y => rPn K f [x, y]
theorem pn_end {XC : Str → Value → Prop} {W : WX} {K : PySem.W.Frag} {f : List D → Option Ent} {F F1 H H1 : Hp} {env env1 : En} {σ : L2.St} {xs : List Opd} {vs : List V} {Q : VK} (P : Post K F env σ H F1 env1 (xs.map Opd.pe) vs H1) (o : OpdsAt σ xs vs)
    (h : (onD f (allD env1 xs) env1).wish (fun r env2 => ∀ F2 H2 ws, Post K F env σ H F2 env2 [r] ws H2 → okR r σ ws → one Q r ws H2) fun c ps env2 => exP K XC W F env σ H c ps env2) : rPn K f vs H1 Q := by
  cases e : allD env1 xs with
  | none => rw [e] at h; exact h.elim
  | some ds =>
    rw [e] at h
    have R : RdAll K F1 H1 ds vs := St.opds (pre := []) (ps := []) (by simpa using P.st) P.len rfl o e
    cases e2 : f ds with
    | none => simp only [onD, e2, retE, Res.wish] at h
    | some r =>
      cases r with
      | un => simp only [onD, e2, retE, Res.wish] at h
      | fz d =>
        simp only [onD, e2, retE, Res.wish] at h
        exact ⟨F1, ds, _, P.base.le, R, e2, by simp, fun F' H' v n => h F' H' [v] (P.drop (Post.new P.base n)) ⟨by simp, v, rfl⟩ v rfl⟩
      | ow d =>
        simp only [onD, e2, retE, Res.wish] at h
        exact ⟨F1, ds, _, P.base.le, R, e2, by simp, fun F' H' v n => h F' H' [v] (P.drop (Post.new P.base n)) ⟨by simp, v, rfl⟩ v rfl⟩
theorem t_call {f : List D → Option Ent} {As : List E} {σ : L2.St} {H : Hp} {Q : VK} (h : tE X.K XC C W (.pn f As) σ H Q) : tCB (rPn X.K f) (tOs X.K XC C W As) σ H Q := by
  change tM X.K XC W (evOs C As) (fun xs => xs.map Opd.pe) (fun xs σ vs => OpdsAt σ xs vs) σ H (fun _ xs H1 => _)
  refine tM_bind (m := evOs C As) (f := fun xs e => onD f (allD e xs) e) (peβ := fun r => [r]) (okβ := okR) (Q := one Q) (by
    have : ev C (.pn f As) = fun e => (evOs C As e).bind fun xs e => onD f (allD e xs) e := by funext e; rw [ev]
    rw [← this]; exact h) fun F env F1 env1 xs vs H1 S em P o g => ?_
  exact pn_end P o g
theorem t_un {f : List D → Option Ent} {A : E} {σ : L2.St} {H : Hp} {Q : VK} (h : tE X.K XC C W (.pn f [A]) σ H Q) : tUn (rP1 X.K f) (tO X.K XC C W A) σ H Q := by
  refine tM_bind (m := opnd (ev C A) A) (f := fun x e => onD f (allD e [x]) e) (peβ := fun r => [r]) (okβ := okR) (Q := one Q) (by
    have : ev C (.pn f [A]) = fun e => (opnd (ev C A) A e).bind fun x e => onD f (allD e [x]) e := by
      funext e; rw [ev]; simp only [evOs]
      cases opnd (ev C A) A e <;> rfl
    rw [← this]; exact h) fun F env F1 env1 x vs H1 S em P o g v ev_ => ?_
  obtain ⟨v', rfl, o⟩ := o
  cases ev_
  exact pn_end (xs := [x]) P ⟨_, [], rfl, o, rfl⟩ g
theorem t_bin {f : List D → Option Ent} {A B : E} {σ : L2.St} {H : Hp} {Q : VK} (h : tE X.K XC C W (.pn f [A, B]) σ H Q) : tOp (rP2 X.K f) (tO X.K XC C W A) (tO X.K XC C W B) σ H Q := by
  refine tM_bind (m := opnd (ev C A) A) (f := fun x e => (opnd (ev C B) B e).bind fun y e => onD f (allD e [x, y]) e) (peβ := fun r => [r]) (okβ := okR) (Q := one Q) (by
    have : ev C (.pn f [A, B]) = fun e => (opnd (ev C A) A e).bind fun x e => (opnd (ev C B) B e).bind fun y e => onD f (allD e [x, y]) e := by
      funext e; rw [ev]; simp only [evOs]
      cases opnd (ev C A) A e with
      | ok x e1 => simp only [Res.bind]; cases opnd (ev C B) B e1 <;> rfl
      | ex => rfl
      | no => rfl
    rw [← this]; exact h) fun F env F1 env1 x vs H1 S em P o g v ev_ => ?_
  obtain ⟨v', rfl, o⟩ := o
  cases ev_
  refine tM_next P ?_
  cases e : opnd (ev C B) B env1 with
  | ok y env2 =>
    rw [e] at g
    intro F2 H2 ws P2 o2 w ew
    obtain ⟨w', rfl, o2⟩ := o2
    cases ew
    exact pn_end (xs := [x, y]) (P.seq P2) ⟨_, _, rfl, o, _, [], rfl, o2, rfl⟩ g
  | ex c ps env2 => rw [e] at g; exact g
  | no => rw [e] at g; exact g
variable {a b c : Expr} {A B : E} {f : List D → Option Ent} {pos : Pos}
theorem se_bin {op : Operator} (ho : OpR X (binaryOp op) (rP2 X.K f)) (ha : PE X a (tO X.K XC C W A)) (hb : PE X b (tO X.K XC C W B)) : PE X (.BinOp a op b pos) (tE X.K XC C W (.pn f [A, B])) := (pe_op ho ha hb).imp' fun _ _ _ => t_bin
theorem se_un {op : UnaryOp} (ho : UnR X (unaryOp op) (rP1 X.K f)) (ha : PE X a (tO X.K XC C W A)) : PE X (.UnaryOp op a pos) (tE X.K XC C W (.pn f [A])) := (pe_un ho ha).imp' fun _ _ _ => t_un
theorem se_cmp {op : CmpOp} (ho : OpR X (compareOp op) (rP2 X.K f)) (ha : PE X a (tO X.K XC C W A)) (hb : PE X b (tO X.K XC C W B)) (hm : behindInMarks op b = false := by first | exact nomark _ | rfl) : PE X (.Compare a [op] [b] pos) (tE X.K XC C W (.pn f [A, B])) := (pe_cmpR ho ha hb hm).imp' fun _ _ _ => t_bin
theorem se_callB {x : Str} {p : Pos} {e : Expr} {es : List Expr} {As : List E} {id : String} (hc : CallR X (.builtin id) (rPn X.K f)) (hg : Gl X x) (hm : X.mg x = none) (hv : bootBuiltins x = some (.builtin id)) (ha : PA X (e :: es) (tOs X.K XC C W As)) (hn : x ≠ "__name__" := by decide) (hdb : (x == ("__debug__" : Str)) = false := by decide)
    (hs : starEach (e :: es) X.env = (false, eval e X.env) :: starEach es X.env := by rfl) (hpl : (backTo pos (starEach es X.env)).any (·.1) = false := by rfl) : PE X (.Call (.Name x p) (e :: es) [] pos) (tE X.K XC C W (.pn f As)) := (pe_callB hc hg hm hv ha hn hdb hs hpl).imp' fun _ _ _ => t_call
theorem se_callTy {x : Str} {p : Pos} {e : Expr} {es : List Expr} {As : List E} {id : String} (hc : CallR X (.type id) (rPn X.K f)) (hg : Gl X x) (hm : X.mg x = none) (hv : bootBuiltins x = some (.type id)) (ha : PA X (e :: es) (tOs X.K XC C W As)) (hn : x ≠ "__name__" := by decide) (hdb : (x == ("__debug__" : Str)) = false := by decide)
    (hs : starEach (e :: es) X.env = (false, eval e X.env) :: starEach es X.env := by rfl) (hpl : (backTo pos (starEach es X.env)).any (·.1) = false := by rfl) : PE X (.Call (.Name x p) (e :: es) [] pos) (tE X.K XC C W (.pn f As)) := (pe_callTy hc hg hm hv ha hn hdb hs hpl).imp' fun _ _ _ => t_call
end
end PI

end

section
set_option maxRecDepth 100000
set_option maxHeartbeats 1000000
/-! Pi7: tests, and, or, not, conditional expressions, chains, calls. -/
namespace PI
open PySem PySem.Spec PyProof.Rows L2

/-! ### truth -/
theorem RepAll.isEmpty {K : PySem.W.Frag} {F : Hp} {ds : List D} {vs : List V} (r : RepAll K F ds vs) : vs.isEmpty = ds.isEmpty := by
  have := r.length
  cases vs <;> cases ds <;> simp_all
theorem tru_of {K : PySem.W.Frag} {F H : Hp} {d : D} {v : V} {b : Bool} (l : FLe F H) (r : Rdb K F H d v) (e : truth d = some b) : TruV K v H b := by
  have q := r.read l
  cases d with
  | non => cases (show v = _ from q); exact (Option.some.inj e).symm
  | bl c => cases (show v = _ from q); exact (Option.some.inj e).symm
  | int i => cases (show v = _ from q); exact (Option.some.inj e).symm
  | str x =>
    cases (show v = _ from q)
    replace e : (if x.length ≤ sizeLine then some (x.length != 0) else none) = some b := e
    split at e
    · rename_i h
      refine ⟨h, ?_⟩
      rw [← Option.some.inj e]
      cases q : x.length with
      | zero => rfl
      | succ n => simp; omega
    · cases e
  | tup ds =>
    obtain ⟨a, vs, rfl, s, r⟩ := q
    exact .inr (.inl ⟨vs, s, by rw [r.isEmpty]; exact (Option.some.inj e).symm⟩)
  | lst ds =>
    obtain ⟨a, vs, rfl, s, r⟩ := q
    exact .inl ⟨vs, SqL.of s, by rw [r.isEmpty]; exact (Option.some.inj e).symm⟩
  | dct _ _ => exact q.elim
  | set _ => exact q.elim
  | exc _ _ => exact q.elim
  | scr _ => cases e
theorem onB_ok {r : Ent} {e e' : En} {b : Bool} (h : onB r e = .ok b e') : e' = e ∧ ∃ d, r.d = some d ∧ truth d = some b := by
  unfold onB at h
  cases q : r.d with
  | none => rw [q] at h; cases h
  | some d =>
    rw [q] at h
    simp only [Option.bind] at h
    cases q2 : truth d with
    | none => rw [q2] at h; cases h
    | some c => rw [q2] at h; cases h; exact ⟨rfl, d, rfl, q2⟩
theorem onB_noex {r : Ent} {e e' : En} {c : Str} {ps : List D} : onB r e ≠ .ex c ps e' := by
  unfold onB
  intro h
  split at h <;> cases h

section
variable {X : Cx} {XC : Str → Value → Prop} {C : Calls} {W : WX}
theorem ev_pn_res {f : List D → Option Ent} {es : List E} {env env1 : En} {r : Ent} (h : ev C (.pn f es) env = .ok r env1) : ∃ ds, f ds = some r := by
  rw [ev] at h
  obtain ⟨xs, e1, _, h⟩ := Res.bind_ok h
  unfold onD at h
  split at h
  · unfold retE at h
    split at h
    · cases h
    · rename_i ds _ r' hn e
      cases h
      exact ⟨_, e⟩
    · cases h
  · cases h
/-- an operand's readable value -/
theorem opd1 {K : PySem.W.Frag} {F F1 H H1 : Hp} {env env1 : En} {σ : L2.St} {x : Opd} {v : V} {d : D} (P : Post K F env σ H F1 env1 [x.pe] [v] H1) (o : OpdAt σ x v) (e : (x.ent env1).d = some d) : Rdb K F1 H1 d v :=
  St.opd (pre := []) (ps := [v]) (by simpa using P.st) P.len rfl rfl o e
theorem tT_e {A : E} {σ : L2.St} {H : Hp} {Q : Bool → Hp → Prop} (h : tT X.K XC C W (.e A) σ H Q) : tO X.K XC C W A σ H fun x H1 => ∃ k, TruV X.K x H1 k ∧ Q k H1 := by
  refine tM_bind (m := opnd (ev C A) A) (f := fun x e => onB (x.ent e) e) (peβ := fun _ => []) (okβ := fun _ _ _ => True) (Q := fun b _ => Q b) (by
    have : evT C (.e A) = fun e => (opnd (ev C A) A e).bind fun x e => onB (x.ent e) e := by funext e; rw [evT]
    rw [← this]; exact h) fun F env F1 env1 x vs H1 S em P o g v ev_ => ?_
  obtain ⟨v', rfl, o⟩ := o
  cases ev_
  cases e : onB (x.ent env1) env1 with
  | ok b env2 =>
    obtain ⟨rfl, d, h1, h2⟩ := onB_ok e
    rw [e] at g
    exact ⟨b, tru_of P.base.le (opd1 P o h1) h2, g F1 H1 [] (Post.of P.base P.bext) trivial⟩
  | ex => exact (onB_noex e).elim
  | no => rw [e] at g; exact g.elim
variable {a b c : Expr} {rest : List Expr} {A B : E} {pos : Pos} {TA TB : T}
/-- a test of any expression, by truth -/
theorem st_e (ha : PE X a (tO X.K XC C W A)) (he : ∀ whole, isTrue a X.env whole = (do let v ← whole; standAt a.pos; holding [v] (truthy v)) := by intro _; rfl) : PT X a (tT X.K XC C W (.e A)) := (pt_truth ha he).imp' fun _ _ _ => tT_e
/-- a comparison as a test -/
theorem st_cmp {op : CmpOp} {f : List D → Option Ent} (ho : OpR X (compareOp op) (rP2 X.K f)) (hf : ∀ ds r, f ds = some r → ∃ b, r = .fz (.bl b)) (ha : PE X a (tO X.K XC C W A)) (hb : PE X b (tO X.K XC C W B)) (hm : behindInMarks op b = false := by first | exact nomark _ | rfl) : PT X (.Compare a [op] [b] pos) (tT X.K XC C W (.e (.pn f [A, B]))) :=
  (pt_cmpR ho ha hb hm).imp' fun σ H Q h => by
    refine t_bin (f := f) (Q := fun x H' => ∃ k, x = .bl k ∧ Q k H') ?_
    refine tM_bind (m := ev C (.pn f [A, B])) (f := fun r e => onB r e) (peβ := fun _ => []) (okβ := fun _ _ _ => True) (Q := fun b _ => Q b) (by
      have : evT C (.e (.pn f [A, B])) = fun e => (ev C (.pn f [A, B]) e).bind fun r e => onB r e := by
        funext e; rw [evT]; unfold opnd isVar
        show Res.bind (Res.bind _ _) _ = _
        cases ev C (.pn f [A, B]) e <;> rfl
      rw [← this]; exact h) fun F env F1 env1 r vs H1 S em P o g v ev_ => ?_
    obtain ⟨hr, v', rfl⟩ := o
    cases ev_
    cases e : onB r env1 with
    | ok b env2 =>
      obtain ⟨rfl, d, h1, h2⟩ := onB_ok e
      rw [e] at g
      have hb' : r = .fz (.bl b) := by
        obtain ⟨ds, e3⟩ := ev_pn_res em
        obtain ⟨c, rfl⟩ := hf ds r e3
        cases h1
        cases h2
        rfl
      subst hb'
      exact ⟨b, P.st.lastEnt P.len hr, g F1 H1 [] (Post.of P.base P.bext) trivial⟩
    | ex => exact (onB_noex e).elim
    | no => rw [e] at g; exact g.elim
theorem st_not (ha : PT X a (tT X.K XC C W TA)) : PT X (.UnaryOp .Not a pos) (tT X.K XC C W (.not TA)) := (pt_not ha).imp' fun σ H Q h => by
  change tM X.K XC W (evT C TA) (fun _ => []) (fun _ _ _ => True) σ H (fun b _ H1 => _)
  refine tM_bind (m := evT C TA) (f := fun c e => .ok (!c) e) (peβ := fun _ => []) (okβ := fun _ _ _ => True) (Q := fun b _ => Q b) (by
    have : evT C (.not TA) = fun e => (evT C TA e).bind fun c e => .ok (!c) e := by funext e; rw [evT]
    rw [← this]; exact h) fun F env F1 env1 r vs H1 S em P o g => ?_
  exact g F1 H1 vs P trivial
theorem sw_and1 (ha : PT X a (tT X.K XC C W TA)) : PW X (.BoolOp .And [a] pos) (tT X.K XC C W TA) := pw_and1 ha
theorem sw_or1 (ha : PT X a (tT X.K XC C W TA)) : PW X (.BoolOp .Or [a] pos) (tT X.K XC C W TA) := pw_or1 ha
theorem sw_and (ha : PT X a (tT X.K XC C W TA)) (hb : PW X (.BoolOp .And (b :: rest) pos) (tT X.K XC C W TB)) : PW X (.BoolOp .And (a :: b :: rest) pos) (tT X.K XC C W (.and TA TB)) := (pw_and ha hb).imp' fun σ H Q h => by
  change tM X.K XC W (evT C TA) (fun _ => []) (fun _ _ _ => True) σ H (fun b _ H1 => _)
  refine tM_bind (m := evT C TA) (f := fun c e => if c = true then evT C TB e else .ok false e) (peβ := fun _ => []) (okβ := fun _ _ _ => True) (Q := fun b _ => Q b) (by
    have : evT C (.and TA TB) = fun e => (evT C TA e).bind fun c e => if c = true then evT C TB e else .ok false e := by funext e; rw [evT]
    rw [← this]; exact h) fun F env F1 env1 r vs H1 S em P o g => ?_
  cases r with
  | true =>
    rw [if_pos rfl] at g ⊢
    refine tM_next P ?_
    cases e : evT C TB env1 with
    | ok y env2 => rw [e] at g; exact fun F2 H2 ws P2 o2 => g F2 H2 ws (P.drop P2) trivial
    | ex => rw [e] at g; exact g
    | no => rw [e] at g; exact g
  | false =>
    rw [if_neg (by decide)] at g ⊢
    exact g F1 H1 vs P trivial
theorem sw_or (ha : PT X a (tT X.K XC C W TA)) (hb : PW X (.BoolOp .Or (b :: rest) pos) (tT X.K XC C W TB)) : PW X (.BoolOp .Or (a :: b :: rest) pos) (tT X.K XC C W (.or TA TB)) := (pw_or ha hb).imp' fun σ H Q h => by
  change tM X.K XC W (evT C TA) (fun _ => []) (fun _ _ _ => True) σ H (fun b _ H1 => _)
  refine tM_bind (m := evT C TA) (f := fun c e => if c = true then .ok true e else evT C TB e) (peβ := fun _ => []) (okβ := fun _ _ _ => True) (Q := fun b _ => Q b) (by
    have : evT C (.or TA TB) = fun e => (evT C TA e).bind fun c e => if c = true then .ok true e else evT C TB e := by funext e; rw [evT]
    rw [← this]; exact h) fun F env F1 env1 r vs H1 S em P o g => ?_
  cases r with
  | true =>
    rw [if_pos rfl] at g ⊢
    exact g F1 H1 vs P trivial
  | false =>
    rw [if_neg (by decide)] at g ⊢
    refine tM_next P ?_
    cases e : evT C TB env1 with
    | ok y env2 => rw [e] at g; exact fun F2 H2 ws P2 o2 => g F2 H2 ws (P.drop P2) trivial
    | ex => rw [e] at g; exact g
    | no => rw [e] at g; exact g
/-- e1 if c else e2 -/
theorem se_ite (hc : PT X c (tT X.K XC C W TA)) (ha : PE X a (tE X.K XC C W A)) (hb : PE X b (tE X.K XC C W B)) : PE X (.IfExp c a b pos) (tE X.K XC C W (.ite TA A B)) := (pe_ifExp hc ha hb).imp' fun σ H Q h => by
  change tM X.K XC W (evT C TA) (fun _ => []) (fun _ _ _ => True) σ H (fun b _ H1 => _)
  refine tM_bind (m := evT C TA) (f := fun t e => if t = true then ev C A e else ev C B e) (peβ := fun r => [r]) (okβ := okR) (Q := one Q) (by
    have : ev C (.ite TA A B) = fun e => (evT C TA e).bind fun t e => if t = true then ev C A e else ev C B e := by funext e; rw [ev]
    rw [← this]; exact h) fun F env F1 env1 r vs H1 S em P o g => ?_
  cases r with
  | true =>
    rw [if_pos rfl] at g ⊢
    refine tM_next P ?_
    cases e : ev C A env1 with
    | ok y env2 => rw [e] at g; exact fun F2 H2 ws P2 o2 => g F2 H2 ws (P.drop P2) o2
    | ex => rw [e] at g; exact g
    | no => rw [e] at g; exact g
  | false =>
    rw [if_neg (by decide)] at g ⊢
    refine tM_next P ?_
    cases e : ev C B env1 with
    | ok y env2 => rw [e] at g; exact fun F2 H2 ws P2 o2 => g F2 H2 ws (P.drop P2) o2
    | ex => rw [e] at g; exact g
    | no => rw [e] at g; exact g
theorem se_not (ha : PE X a (tO X.K XC C W A)) : PE X (.UnaryOp .Not a pos) (tE X.K XC C W (.not A)) := (pe_notT ha).imp' fun σ H Q h => by
  refine tM_bind (m := opnd (ev C A) A) (f := fun x e => (onB (x.ent e) e).bind fun b e => .ok (.fz (.bl (!b))) e) (peβ := fun r => [r]) (okβ := okR) (Q := one Q) (by
    have : ev C (.not A) = fun e => (opnd (ev C A) A e).bind fun x e => (onB (x.ent e) e).bind fun b e => .ok (.fz (.bl (!b))) e := by funext e; rw [ev]
    rw [← this]; exact h) fun F env F1 env1 x vs H1 S em P o g v ev_ => ?_
  obtain ⟨v', rfl, o⟩ := o
  cases ev_
  cases e : onB (x.ent env1) env1 with
  | ok b env2 =>
    obtain ⟨rfl, d, h1, h2⟩ := onB_ok e
    rw [e] at g
    exact ⟨b, tru_of P.base.le (opd1 P o h1) h2, g F1 H1 [.bl (!b)] (P.drop (Post.new P.base (new_scal P.base.le (by unfold Rep; rfl)))) ⟨by simp, _, rfl⟩ _ rfl⟩
  | ex => exact (onB_noex e).elim
  | no => rw [e] at g; exact g.elim
theorem se_one {op} (h : PE X a (tE X.K XC C W A)) : PE X (.BoolOp op [a] pos) (tE X.K XC C W A) := pe_one h
theorem rdbE {K : PySem.W.Frag} {F H : Hp} {r : Ent} {v : V} {d : D} (h : EntOk K F H r v) (e : r.d = some d) : Rdb K F H d v := h.rdb e
theorem se_and (ha : PE X a (tE X.K XC C W A)) (hb : PE X (.BoolOp .And (b :: rest) pos) (tE X.K XC C W B)) : PE X (.BoolOp .And (a :: b :: rest) pos) (tE X.K XC C W (.and A B)) := (pe_andT ha hb).imp' fun σ H Q h => by
  refine tM_bind (m := ev C A) (f := fun r e => (onB r e).bind fun t e => if t = true then ev C B e else .ok r e) (peβ := fun r => [r]) (okβ := okR) (Q := one Q) (by
    have : ev C (.and A B) = fun e => (ev C A e).bind fun r e => (onB r e).bind fun t e => if t = true then ev C B e else .ok r e := by funext e; rw [ev]
    rw [← this]; exact h) fun F env F1 env1 r vs H1 S em P o g v ev_ => ?_
  obtain ⟨hr, v', rfl⟩ := o
  cases ev_
  cases e : onB r env1 with
  | ok t env2 =>
    obtain ⟨rfl, d, h1, h2⟩ := onB_ok e
    rw [e] at g
    refine ⟨t, tru_of P.base.le ((P.st.lastEnt P.len hr).rdb h1) h2, ?_⟩
    replace g : (if t = true then ev C B env2 else .ok r env2).wish _ _ := g
    cases t with
    | true =>
      rw [if_pos rfl] at g ⊢
      refine tM_next P ?_
      cases e : ev C B env2 with
      | ok y env3 => rw [e] at g; exact fun F2 H2 ws P2 o2 => g F2 H2 ws (P.drop P2) o2
      | ex => rw [e] at g; exact g
      | no => rw [e] at g; exact g
    | false =>
      rw [if_neg (by decide)] at g ⊢
      exact g F1 H1 [v] P ⟨hr, v, rfl⟩ v rfl
  | ex => exact (onB_noex e).elim
  | no => rw [e] at g; exact g.elim
theorem se_or (ha : PE X a (tE X.K XC C W A)) (hb : PE X (.BoolOp .Or (b :: rest) pos) (tE X.K XC C W B)) : PE X (.BoolOp .Or (a :: b :: rest) pos) (tE X.K XC C W (.or A B)) := (pe_orT ha hb).imp' fun σ H Q h => by
  refine tM_bind (m := ev C A) (f := fun r e => (onB r e).bind fun t e => if t = true then .ok r e else ev C B e) (peβ := fun r => [r]) (okβ := okR) (Q := one Q) (by
    have : ev C (.or A B) = fun e => (ev C A e).bind fun r e => (onB r e).bind fun t e => if t = true then .ok r e else ev C B e := by funext e; rw [ev]
    rw [← this]; exact h) fun F env F1 env1 r vs H1 S em P o g v ev_ => ?_
  obtain ⟨hr, v', rfl⟩ := o
  cases ev_
  cases e : onB r env1 with
  | ok t env2 =>
    obtain ⟨rfl, d, h1, h2⟩ := onB_ok e
    rw [e] at g
    refine ⟨t, tru_of P.base.le ((P.st.lastEnt P.len hr).rdb h1) h2, ?_⟩
    replace g : (if t = true then .ok r env2 else ev C B env2).wish _ _ := g
    cases t with
    | true =>
      rw [if_pos rfl] at g ⊢
      exact g F1 H1 [v] P ⟨hr, v, rfl⟩ v rfl
    | false =>
      rw [if_neg (by decide)] at g ⊢
      refine tM_next P ?_
      cases e : ev C B env2 with
      | ok y env3 => rw [e] at g; exact fun F2 H2 ws P2 o2 => g F2 H2 ws (P.drop P2) o2
      | ex => rw [e] at g; exact g
      | no => rw [e] at g; exact g
  | ex => exact (onB_noex e).elim
  | no => rw [e] at g; exact g.elim
end
end PI

end

section
set_option maxRecDepth 100000
set_option maxHeartbeats 1000000
/-! Pi8: calls. -/
namespace PI
open PySem PySem.Spec PyProof.Rows L2

section
variable {K : PySem.W.Frag} {F H : Hp} {env env' : En} {σ σ' : L2.St}
/-- entries in another order, some forgotten -/
theorem St.rel (S : St K F env σ H) (R : Nat → Nat → Prop) (hl : env'.length = σ'.length) (inj : ∀ i j k, R i k → R j k → i = j)
    (he : ∀ (i : Nat) (r : Ent), env'[i]? = some r → r ≠ .un → ∃ k, R i k ∧ env[k]? = some r ∧ ∀ v : V, σ[k]? = some (some v) → σ'[i]? = some (some v)) : St K F env' σ' H ∧ Ext F env σ H F env' σ' H := by
  refine ⟨⟨hl, S.le, fun i r e hr => ?_, fun i j d1 d2 a h1 h2 h3 h4 => ?_⟩, ⟨FLe.refl, fun _ _ h _ => h, fun a q => ?_, fun _ _ h h' => by rw [h] at h'; cases h'⟩⟩
  · obtain ⟨k, _, h1, h2⟩ := he i r e hr
    obtain ⟨v, h3, h4⟩ := S.ent k r h1 hr
    exact ⟨v, h2 v h3, h4⟩
  · obtain ⟨k, r1, e1, g1⟩ := he i _ h1 (by simp)
    obtain ⟨l, r2, e2, g2⟩ := he j _ h2 (by simp)
    obtain ⟨v1, z1, _⟩ := S.ent k _ e1 (by simp)
    obtain ⟨v2, z2, _⟩ := S.ent l _ e2 (by simp)
    have y1 := (g1 v1 z1).symm.trans h3
    have y2 := (g2 v2 z2).symm.trans h4
    cases y1; cases y2
    have := S.sep k l d1 d2 a e1 e2 z1 z2
    subst this
    exact inj i j k r1 r2
  · obtain ⟨i, d, h1, h2⟩ := q
    obtain ⟨k, _, e1, g1⟩ := he i _ h1 (by simp)
    obtain ⟨v1, z1, _⟩ := S.ent k _ e1 (by simp)
    have y1 := (g1 v1 z1).symm.trans h2
    cases y1
    exact .inl ⟨k, d, e1, z1⟩
end

theorem mem_slots {i : Nat} : ∀ {xs : List Opd}, i ∈ slots xs ↔ ∃ j : Nat, xs[j]? = some (.sl i)
  | [] => by simp [slots]
  | .sl k :: xs => by
    unfold slots
    rw [List.mem_cons, mem_slots (xs := xs)]
    constructor
    · rintro (rfl | ⟨j, h⟩)
      · exact ⟨0, rfl⟩
      · exact ⟨j + 1, by simpa using h⟩
    · rintro ⟨j, h⟩
      cases j with
      | zero => simp at h; exact .inl h.symm
      | succ j => exact .inr ⟨j, by simpa using h⟩
  | .vl r :: xs => by
    unfold slots
    rw [mem_slots (xs := xs)]
    constructor
    · rintro ⟨j, h⟩
      exact ⟨j + 1, by simpa using h⟩
    · rintro ⟨j, h⟩
      cases j with
      | zero => simp at h
      | succ j => exact ⟨j, by simpa using h⟩
theorem slots_inj : ∀ {xs : List Opd}, (slots xs).Nodup → ∀ {i j k : Nat}, xs[j]? = some (.sl i) → xs[k]? = some (.sl i) → j = k
  | [], _, i, j, k, h, _ => by simp at h
  | .sl m :: xs, hn, i, j, k, h, h' => by
    unfold slots at hn
    rw [List.nodup_cons] at hn
    cases j with
    | zero =>
      simp at h; subst h
      cases k with
      | zero => rfl
      | succ k => exact (hn.1 (mem_slots.mpr ⟨k, by simpa using h'⟩)).elim
    | succ j =>
      cases k with
      | zero =>
        simp at h'; subst h'
        exact (hn.1 (mem_slots.mpr ⟨j, by simpa using h⟩)).elim
      | succ k =>
        have := slots_inj hn.2 (i := i) (j := j) (k := k) (by simpa using h) (by simpa using h')
        omega
  | .vl r :: xs, hn, i, j, k, h, h' => by
    cases j with
    | zero => simp at h
    | succ j =>
      cases k with
      | zero => simp at h'
      | succ k =>
        have := slots_inj (xs := xs) hn (i := i) (j := j) (k := k) (by simpa using h) (by simpa using h')
        omega
theorem putBack_length : ∀ {xs : List Opd} {os e : En}, (putBack xs os e).length = e.length
  | [], os, e => by unfold putBack; rfl
  | x :: xs, [], e => by unfold putBack; rfl
  | .sl i :: xs, o :: os, e => by unfold putBack; rw [putBack_length, List.length_set]
  | .vl r :: xs, o :: os, e => by unfold putBack; rw [putBack_length]
theorem putBack_get : ∀ {xs : List Opd} {os e : En} {i : Nat} {r : Ent}, os.length = xs.length → (putBack xs os e)[i]? = some r → (∃ j : Nat, xs[j]? = some (.sl i) ∧ os[j]? = some r) ∨ ((∀ j : Nat, xs[j]? ≠ some (.sl i)) ∧ e[i]? = some r)
  | [], os, e, i, r, hl, h => by unfold putBack at h; exact .inr ⟨by simp, h⟩
  | x :: xs, [], e, i, r, hl, h => by simp at hl
  | .vl q :: xs, o :: os, e, i, r, hl, h => by
    unfold putBack at h
    rcases putBack_get (by simpa using hl) h with ⟨j, h1, h2⟩ | ⟨h1, h2⟩
    · exact .inl ⟨j + 1, by simpa using h1, by simpa using h2⟩
    · refine .inr ⟨fun j => ?_, h2⟩
      cases j with
      | zero => simp
      | succ j => simpa using h1 j
  | .sl k :: xs, o :: os, e, i, r, hl, h => by
    unfold putBack at h
    rcases putBack_get (by simpa using hl) h with ⟨j, h1, h2⟩ | ⟨h1, h2⟩
    · exact .inl ⟨j + 1, by simpa using h1, by simpa using h2⟩
    · rcases getElem?_set_cases h2 with ⟨rfl, rfl, _⟩ | ⟨ne, h2⟩
      · exact .inl ⟨0, rfl, rfl⟩
      · refine .inr ⟨fun j => ?_, h2⟩
        cases j with
        | zero => simp; exact fun z => ne z.symm
        | succ j => simpa using h1 j
theorem wipeE_length (e : En) : ∀ is : List Nat, (wipeE e is).length = e.length
  | [] => rfl
  | i :: is => by unfold wipeE; rw [List.length_set, wipeE_length]
theorem wipeE_get {e : En} {i : Nat} {r : Ent} (hr : r ≠ .un) : ∀ {is : List Nat}, (wipeE e is)[i]? = some r → e[i]? = some r ∧ i ∉ is
  | [], h => ⟨h, by simp⟩
  | k :: is, h => by
    unfold wipeE at h
    rcases getElem?_set_cases h with ⟨_, rfl, _⟩ | ⟨ne, h⟩
    · exact (hr rfl).elim
    · obtain ⟨h1, h2⟩ := wipeE_get hr h
      exact ⟨h1, by simp only [List.mem_cons, not_or]; exact ⟨ne, h2⟩⟩
theorem OpdsAt.get {σ : L2.St} : ∀ {xs : List Opd} {vs : List V} {j : Nat} {x : Opd}, OpdsAt σ xs vs → xs[j]? = some x → ∃ v, vs[j]? = some v ∧ OpdAt σ x v
  | [], vs, j, x, h, e => by simp at e
  | y :: ys, vs, 0, x, h, e => by
    obtain ⟨v, r, rfl, h1, h2⟩ := h
    simp at e; subst e
    exact ⟨v, rfl, h1⟩
  | y :: ys, vs, j + 1, x, h, e => by
    obtain ⟨v, r, rfl, h1, h2⟩ := h
    obtain ⟨v', q1, q2⟩ := OpdsAt.get h2 (j := j) (by simpa using e)
    exact ⟨v', by simpa using q1, q2⟩

section
variable {K : PySem.W.Frag} {F F1 F' H H1 H' : Hp} {env env1 : En} {σ : L2.St} {xs : List Opd} {vs : List V}
/-- the arguments as the callee's entries, the caller's others beside them -/
theorem Post.args (P : Post K F env σ H F1 env1 (xs.map Opd.pe) vs H1) (o : OpdsAt σ xs vs) (hn : (slots xs).Nodup) :
    St K F1 (xs.map (Opd.ent env1) ++ wipeE env1 (slots xs)) (vs.map some ++ σ) H1 ∧ Ext F env σ H F1 (xs.map (Opd.ent env1) ++ wipeE env1 (slots xs)) (vs.map some ++ σ) H1 := by
  have hl := P.len
  have ho := o.length
  have R := P.st.rel (env' := xs.map (Opd.ent env1) ++ wipeE env1 (slots xs)) (σ' := vs.map some ++ σ)
    (fun j k => (∃ i, xs[j]? = some (.sl i) ∧ k = i ∧ i < env1.length) ∨ (∃ r, xs[j]? = some (.vl r) ∧ k = env1.length + j) ∨ (xs.length ≤ j ∧ k = j - xs.length ∧ k < env1.length ∧ k ∉ slots xs))
    (by simp [wipeE_length, hl, ho]) ?_ ?_
  · exact ⟨R.1, P.ext.trans R.2⟩
  · rintro i j k (⟨a, h1, rfl, h3⟩ | ⟨r, h1, rfl⟩ | ⟨h1, rfl, h2, h3⟩) (⟨b, g1, g2, g3⟩ | ⟨s, g1, g2⟩ | ⟨g1, g2, g3, g4⟩)
    · subst g2; exact slots_inj hn h1 g1
    · omega
    · subst g2; exact (g4 (mem_slots.mpr ⟨_, h1⟩)).elim
    · omega
    · omega
    · omega
    · rw [g2] at h3; exact (h3 (mem_slots.mpr ⟨_, g1⟩)).elim
    · omega
    · omega
  · intro j r e hr
    by_cases hj : j < xs.length
    · rw [List.getElem?_append_left (by simpa using hj), List.getElem?_map] at e
      obtain ⟨x, hx⟩ : ∃ x, xs[j]? = some x := ⟨xs[j], by simp [hj]⟩
      rw [hx] at e
      obtain ⟨v, hv, ov⟩ := o.get hx
      cases x with
      | sl i =>
        simp only [Option.map_some, Opd.ent, Option.some.injEq] at e
        cases q : env1[i]? with
        | none => rw [q] at e; simp at e; exact (hr e.symm).elim
        | some r' =>
          rw [q] at e; simp at e; subst e
          have hi := (List.getElem?_eq_some_iff.mp q).1
          refine ⟨i, .inl ⟨i, hx, rfl, hi⟩, by rw [List.getElem?_append_left hi]; exact q, fun v' e' => ?_⟩
          rw [List.getElem?_append_left (by omega)] at e'
          have : σ[i]? = some (some v) := ov
          rw [this] at e'; cases e'
          rw [List.getElem?_append_left (by simp; omega), List.getElem?_map, hv]
          rfl
      | vl r' =>
        simp only [Option.map_some, Opd.ent, Option.some.injEq] at e
        subst e
        refine ⟨env1.length + j, .inr (.inl ⟨_, hx, rfl⟩), ?_, fun v' e' => ?_⟩
        · rw [List.getElem?_append_right (by omega), Nat.add_sub_cancel_left, List.getElem?_map, hx]; rfl
        · rw [List.getElem?_append_right (by omega), hl, Nat.add_sub_cancel_left] at e'
          rw [List.getElem?_append_left (by simp; omega)]
          exact e'
    · rw [List.getElem?_append_right (by simpa using hj), List.length_map] at e
      obtain ⟨h1, h2⟩ := wipeE_get hr e
      have hi := (List.getElem?_eq_some_iff.mp h1).1
      refine ⟨j - xs.length, .inr (.inr ⟨by omega, rfl, hi, h2⟩), by rw [List.getElem?_append_left hi]; exact h1, fun v' e' => ?_⟩
      rw [List.getElem?_append_left (by omega)] at e'
      rw [List.getElem?_append_right (by simp; omega), List.length_map, ho]
      exact e'
/-- behind the call: what the callee hands back -/
theorem Post.back {outs pe : En} {rv : List V} (o : OpdsAt σ xs vs) (hn : (slots xs).Nodup) (hl : env1.length = σ.length) (ho : outs.length = xs.length) (hp : pe.length = rv.length)
    (S : St K F' ((outs ++ pe) ++ wipeE env1 (slots xs)) ((vs.map some ++ rv.map some) ++ σ) H') :
    St K F' (putBack xs outs env1 ++ pe) (σ ++ rv.map some) H' ∧ Ext F' ((outs ++ pe) ++ wipeE env1 (slots xs)) ((vs.map some ++ rv.map some) ++ σ) H' F' (putBack xs outs env1 ++ pe) (σ ++ rv.map some) H' := by
  have hv := o.length
  refine S.rel (fun i k => (i < env1.length ∧ xs[k]? = some (.sl i)) ∨ (i < env1.length ∧ i ∉ slots xs ∧ k = xs.length + pe.length + i) ∨ (env1.length ≤ i ∧ i < env1.length + pe.length ∧ k = xs.length + (i - env1.length))) (by simp [putBack_length, hl, hp]) ?_ ?_
  · rintro i j k (⟨h0, h1⟩ | ⟨h0, h1, rfl⟩ | ⟨h0, h1, rfl⟩) (⟨g0, g1⟩ | ⟨g0, g1, g2⟩ | ⟨g0, g1, g2⟩)
    · rw [h1] at g1; cases g1; rfl
    · have := (List.getElem?_eq_some_iff.mp h1).1; omega
    · have := (List.getElem?_eq_some_iff.mp h1).1; omega
    · have := (List.getElem?_eq_some_iff.mp g1).1; omega
    · omega
    · omega
    · have := (List.getElem?_eq_some_iff.mp g1).1; omega
    · omega
    · omega
  · intro i r e hr
    by_cases hi : i < env1.length
    · rw [List.getElem?_append_left (by rw [putBack_length]; exact hi)] at e
      rcases putBack_get ho e with ⟨j, h1, h2⟩ | ⟨h1, h2⟩
      · have hj := (List.getElem?_eq_some_iff.mp h1).1
        obtain ⟨v, q1, q2⟩ := o.get h1
        refine ⟨j, .inl ⟨hi, h1⟩, ?_, fun v' e' => ?_⟩
        · rw [List.append_assoc, List.getElem?_append_left (by omega)]; exact h2
        · rw [List.append_assoc, List.getElem?_append_left (by simp; omega), List.getElem?_map, q1] at e'
          cases e'
          rw [List.getElem?_append_left (by omega)]
          exact q2
      · have hns : i ∉ slots xs := fun z => by
          obtain ⟨j, q⟩ := mem_slots.mp z
          exact h1 j q
        refine ⟨xs.length + pe.length + i, .inr (.inl ⟨hi, hns, rfl⟩), ?_, fun v' e' => ?_⟩
        · rw [List.getElem?_append_right (by simp; omega)]
          have : xs.length + pe.length + i - (outs ++ pe).length = i := by simp; omega
          rw [this]
          have w : ∀ (is : List Nat), i ∉ is → (wipeE env1 is)[i]? = env1[i]? := by
            intro is
            induction is with
            | nil => intro _; rfl
            | cons k is ih =>
              intro hk
              simp only [List.mem_cons, not_or] at hk
              unfold wipeE
              rw [List.getElem?_set_ne (Ne.symm hk.1)]
              exact ih hk.2
          rw [w _ hns]; exact h2
        · rw [List.getElem?_append_right (by simp; omega)] at e'
          have : xs.length + pe.length + i - (vs.map some ++ rv.map some).length = i := by simp; omega
          rw [this] at e'
          rw [List.getElem?_append_left (by omega)]
          exact e'
    · have hb : i < env1.length + pe.length := by
        have := (List.getElem?_eq_some_iff.mp e).1
        simp [putBack_length] at this; omega
      rw [List.getElem?_append_right (by rw [putBack_length]; omega), putBack_length] at e
      refine ⟨xs.length + (i - env1.length), .inr (.inr ⟨by omega, hb, rfl⟩), ?_, fun v' e' => ?_⟩
      · rw [List.append_assoc, List.getElem?_append_right (by omega), List.getElem?_append_left (by omega)]
        have : xs.length + (i - env1.length) - outs.length = i - env1.length := by omega
        rw [this]; exact e
      · rw [List.append_assoc, List.getElem?_append_right (by simp; omega), List.getElem?_append_left (by simp; omega)] at e'
        rw [List.getElem?_append_right (by omega)]
        have : xs.length + (i - env1.length) - (vs.map some).length = i - σ.length := by simp; omega
        rw [this] at e'
        exact e'
end

/-- a def's promise: what the evaluator's call gives -/
def spI (K : PySem.W.Frag) (XC : Str → Value → Prop) (C : Calls) (f : Nat) : Sp := fun vs H Q E => ∃ F args, St K F args (vs.map some) H ∧
  match C f args with
  | .ok r outs => r ≠ .un → ∀ F' H' v, St K F' (outs ++ [r]) (vs.map some ++ [some v]) H' → Ext F args (vs.map some) H F' (outs ++ [r]) (vs.map some ++ [some v]) H' → Q v H'
  | .ex c ps outs => ∀ F' H' cls dx, St K F' outs (vs.map some) H' → Ext F args (vs.map some) H F' outs (vs.map some) H' → ExOk K XC F' H' c ps cls dx → E cls dx H'
  | .no => False
section
variable {X : Cx} {XC : Str → Value → Prop} {C : Calls} {W : WX}
theorem t_callI {f : Nat} {As : List E} {ms : List Bool} {σ : L2.St} {H : Hp} {Q : VK} (h : tE X.K XC C W (.call f ms As) σ H Q) : tCallS (spI X.K XC C f) (WE W) (tAs X.K XC C W As ms) σ H Q := by
  change tM X.K XC W (evAs C As ms) (fun xs => xs.map Opd.pe) (fun xs σ vs => OpdsAt σ xs vs) σ H (fun _ xs H1 => _)
  refine tM_bind (m := evAs C As ms) (f := fun xs e => callWith C f xs e) (peβ := fun r => [r]) (okβ := okR) (Q := one Q) (by
    have : ev C (.call f ms As) = fun e => (evAs C As ms e).bind fun xs e => callWith C f xs e := by funext e; rw [ev]
    rw [← this]; exact h) fun F env F1 env1 xs vs H1 S em P o g => ?_
  unfold callWith at g
  by_cases hn : (slots xs).Nodup
  · rw [if_pos hn] at g
    obtain ⟨SA, XA⟩ := P.args o hn
    have la : (xs.map (Opd.ent env1)).length = (vs.map some).length := by simp [o.length]
    refine ⟨F1, xs.map (Opd.ent env1), SA.left la, ?_⟩
    cases e : C f (xs.map (Opd.ent env1)) with
    | ok r outs =>
      rw [e] at g
      intro hr F' H' v S' x'
      have lo : outs.length = xs.length := by have := S'.len; have := o.length; simp at *; omega
      have fr := St.frame (pe := wipeE env1 (slots xs)) (ps := σ) SA la S' x'
      have fx := Ext.frame (pe := wipeE env1 (slots xs)) (ps := σ) la S'.len x'
      obtain ⟨s2, x2⟩ := Post.back (pe := [r]) (rv := [v]) o hn P.len lo rfl (by simpa using fr)
      exact g F' H' [v] ⟨by simpa using s2, (XA.trans fx).trans (by simpa using x2), rfl⟩ ⟨hr, v, rfl⟩ v rfl
    | ex c ps outs =>
      rw [e] at g
      intro F' H' cls dx S' x' ex
      have lo : outs.length = xs.length := by have := S'.len; have := o.length; simp at *; omega
      have fr := St.frame (pe := wipeE env1 (slots xs)) (ps := σ) SA la S' x'
      have fx := Ext.frame (pe := wipeE env1 (slots xs)) (ps := σ) la S'.len x'
      obtain ⟨s2, x2⟩ := Post.back (pe := []) (rv := []) o hn P.len lo rfl (by simpa using fr)
      exact g F' H' cls dx (by simpa using s2) ((XA.trans fx).trans (by simpa using x2)) ex
    | no => rw [e] at g; exact g.elim
  · rw [if_neg hn] at g; exact g.elim
variable {k f : Nat} {fa : Addr} {fd : FuncData} {ps : List Str} {x : Str} {p pos : Pos} {e : Expr} {es : List Expr} {As : List E} {ms : List Bool}
/-- a def as the evaluator knows it -/
structure DefAt (P : Program) (w : World) (K : PySem.W.Frag) (mg : Str → Option Value) (base : Heap) (XC : Str → Value → Prop) (C : Calls) (k : Nat) (x : Str) (f : Nat) : Prop where
  ex : ∃ (fa : Addr) (fd : FuncData) (ps : List Str), FnOk P w K mg base (L2.CX P w) k fa fd ps (spI K XC C f) ∧ mg x = some (.ref fa) ∧ PySem.W.keepIn K (.ref fa) = true ∧ Binds K fd ps []
theorem se_call (G : DefAt X.prog X.w X.K X.mg X.base XC C k x f) (hr : Room k X.A) (hg : Gl X x) (tk : Takes X W) (ha : PA X (e :: es) (tAs X.K XC C W As ms)) (hdb : (x == ("__debug__" : Str)) = false := by decide) (he : starEach (e :: es) X.env = (false, eval e X.env) :: starEach es X.env := by rfl) (hpl : (backTo pos (starEach es X.env)).any (·.1) = false := by rfl) :
    PE X (.Call (.Name x p) (e :: es) [] pos) (tE X.K XC C W (.call f ms As)) := by
  obtain ⟨fa, fd, ps, F, hm, hk, hb⟩ := G.ex
  exact (pe_callS F hr hg hm hk hb (fun σ => passAt tk σ) ha hdb he hpl).imp' fun _ _ _ => t_callI
/-- a call without arguments -/
theorem se_call0 (G : DefAt X.prog X.w X.K X.mg X.base XC C k x f) (hr : Room k X.A) (hg : Gl X x) (tk : Takes X W) (hdb : (x == ("__debug__" : Str)) = false := by decide) : PE X (.Call (.Name x p) [] [] pos) (tE X.K XC C W (.call f [] [])) := by
  obtain ⟨fa, fd, ps, F, hm, hk, hb⟩ := G.ex
  constructor
  intro pins z σ G Q J h
  obtain ⟨F0, env, S, h3⟩ := t_callI h
  rw [show evAs C [] [] env = .ok [] env from by unfold evAs; rfl] at h3
  have go : wpAny (model X.prog X.w) X.A (call (.ref fa) []) (EP X pins σ Q) X.xe z := run_fnS (us := []) (vs := []) (E := WE W) F hr hb (passAt tk σ) J .nil (h3 _ G [] (Post.nil S) rfl)
  exact wpAny_Call_Name_kw (ld_glob J hg hm (PySem.W.callWith_K0 J.kIn hk go) hdb)
end
end PI

end

section
set_option maxRecDepth 100000
set_option maxHeartbeats 1000000
/-! Pi9: targets, what is walked, comprehensions. -/
namespace PI
open PySem PySem.Spec PyProof.Rows L2

mutual
def Tg.slots : Tg → List Nat
  | .nm i => [i]
  | .tp ts => Tg.slotss ts
def Tg.slotss : List Tg → List Nat
  | [] => []
  | t :: ts => Tg.slots t ++ Tg.slotss ts
end
mutual
theorem Tg.asg_length {pw : List Nat} : ∀ {t : Tg} {d : D} {e e' : En}, Tg.asg pw t d e = some e' → e'.length = e.length
  | .nm i, d, e, e', h => by
    unfold Tg.asg at h
    split at h
    · cases h
    · cases h; simp
  | .tp ts, d, e, e', h => by
    unfold Tg.asg at h
    cases d with
    | tup ds => exact Tg.asgs_length h
    | _ => cases h
theorem Tg.asgs_length {pw : List Nat} : ∀ {ts : List Tg} {ds : List D} {e e' : En}, Tg.asgs pw ts ds e = some e' → e'.length = e.length
  | [], ds, e, e', h => by
    unfold Tg.asgs at h
    cases ds with
    | nil => cases h; rfl
    | cons _ _ => cases h
  | t :: ts, ds, e, e', h => by
    unfold Tg.asgs at h
    cases ds with
    | nil => cases h
    | cons d ds =>
      dsimp only at h
      cases q : Tg.asg pw t d e with
      | none => rw [q] at h; cases h
      | some e1 =>
        rw [q] at h
        rw [Tg.asgs_length h, Tg.asg_length q]
end
section
variable {X : Cx}
def tGt (K : PySem.W.Frag) (pw : List Nat) (tg : Tg) : TG := fun v σ H Q => ∃ F env d e', St K F env σ H ∧ Rep K F d v ∧ Tg.asg pw tg d env = some e' ∧
  ∀ σ', St K F e' σ' H → Ext F env σ H F e' σ' H → σ'.length = σ.length → (∀ i, i ∉ tg.slots → σ'[i]? = σ[i]?) → (∀ i ∈ pw, σ'[i]? = σ[i]?) → Q σ' H
def tGts (K : PySem.W.Frag) (pw : List Nat) (tgs : List Tg) : TGs := fun vs σ H Q => ∃ F env ds e', St K F env σ H ∧ RepAll K F ds vs ∧ Tg.asgs pw tgs ds env = some e' ∧
  ∀ σ', St K F e' σ' H → Ext F env σ H F e' σ' H → σ'.length = σ.length → (∀ i, i ∉ Tg.slotss tgs → σ'[i]? = σ[i]?) → (∀ i ∈ pw, σ'[i]? = σ[i]?) → Q σ' H
theorem _root_.L2.PG.imp' {tg : Expr} {t t' : TG} (h : PG X tg t) (i : ∀ v σ H Q, t' v σ H Q → t v σ H Q) : PG X tg t' := ⟨fun pins s σ H v u Q I r q => h.run pins s σ H v u Q I r (i _ _ _ _ q)⟩
theorem _root_.L2.PGs.imp' {tgs : List Expr} {t t' : TGs} (h : PGs X tgs t) (i : ∀ v σ H Q, t' v σ H Q → t v σ H Q) : PGs X tgs t' := ⟨fun pins s σ H v u Q I r q => h.run pins s σ H v u Q I r (i _ _ _ _ q)⟩
theorem St.put {K : PySem.W.Frag} {F H : Hp} {env : En} {σ : L2.St} (S : St K F env σ H) {d : D} {v : V} (r : Rep K F d v) (i : Nat) : St K F (env.set i (.fz d)) (σ.set i (some v)) H ∧ Ext F env σ H F (env.set i (.fz d)) (σ.set i (some v)) H := by
  obtain ⟨S1, x1⟩ := S.new (new_scal S.le r)
  obtain ⟨S2, x2⟩ := S1.store S.len i
  exact ⟨S2, x1.trans x2⟩
theorem sg_nm {tg : Expr} {pw : List Nat} {i : Nat} (h : PG X tg (gName i)) : PG X tg (tGt X.K pw (.nm i)) := h.imp' fun v σ H Q h => by
  obtain ⟨F, env, d, e', S, r, e, q⟩ := h
  unfold Tg.asg at e
  split at e
  · cases e
  · rename_i hp
    cases e
    obtain ⟨S2, x2⟩ := S.put r i
    refine q _ S2 x2 (by simp) (fun j hj => ?_) fun j hj => ?_
    · rw [List.getElem?_set_ne]; rintro rfl; exact hj (by simp [Tg.slots])
    · rw [List.getElem?_set_ne]; rintro rfl; exact hp hj
theorem sgs_nil {pw : List Nat} : PGs X [] (tGts X.K pw []) := pgs_nil.imp' fun vs σ H Q h => by
  obtain ⟨F, env, ds, e', S, r, e, q⟩ := h
  cases ds with
  | cons _ _ => unfold Tg.asgs at e; cases e
  | nil =>
    unfold Tg.asgs at e; cases e
    exact ⟨r, q _ S Ext.refl rfl (fun _ _ => rfl) fun _ _ => rfl⟩
theorem sgs_cons {a : Expr} {es : List Expr} {pw : List Nat} {t : Tg} {ts : List Tg} (h1 : PG X a (tGt X.K pw t)) (h2 : PGs X es (tGts X.K pw ts)) (hs : (assignEach (a :: es) X.env).map (·.2) = assign a X.env :: (assignEach es X.env).map (·.2) := by rfl) : PGs X (a :: es) (tGts X.K pw (t :: ts)) := (pgs_cons h1 h2 hs).imp' fun vs σ H Q h => by
  obtain ⟨F, env, ds, e', S, r, e, q⟩ := h
  cases ds with
  | nil => unfold Tg.asgs at e; cases e
  | cons d ds =>
    obtain ⟨v, vr, rfl, r1, r2⟩ := r
    unfold Tg.asgs at e
    dsimp only at e
    cases z : Tg.asg pw t d env with
    | none => rw [z] at e; cases e
    | some e1 =>
      rw [z] at e
      refine ⟨v, vr, rfl, F, env, d, e1, S, r1, z, fun σ1 S1 x1 l1 o1 p1 => ?_⟩
      refine ⟨F, e1, ds, e', S1, r2, e, fun σ2 S2 x2 l2 o2 p2 => ?_⟩
      refine q σ2 S2 (x1.trans x2) (l2.trans l1) (fun j hj => ?_) fun j hj => (p2 j hj).trans (p1 j hj)
      simp only [Tg.slotss, List.mem_append, not_or] at hj
      exact (o2 j hj.2).trans (o1 j hj.1)
theorem sg_tp {es : List Expr} {k : Nat} {pos : Pos} {pw : List Nat} {ts : List Tg} (hc : X.calm = true) (h : PGs X es (tGts X.K pw ts)) (hn : (assignEach es X.env).length = ts.length := by rfl) (hst : (assignEach es X.env).findIdx? (·.1) = none := by rfl) :
    PG X (.Tuple es k pos) (tGt X.K pw (.tp ts)) := (pg_tup hc h hn hst).imp' fun v σ H Q h => by
  obtain ⟨F, env, d, e', S, r, e, q⟩ := h
  unfold Tg.asg at e
  cases d with
  | tup ds =>
    obtain ⟨a, vs, rfl, s, ra⟩ := r
    have hl : ts.length = ds.length := by
      clear q hn h ra s
      induction ts generalizing ds env with
      | nil => cases ds with
        | nil => rfl
        | cons _ _ => unfold Tg.asgs at e; cases e
      | cons t ts ih => cases ds with
        | nil => unfold Tg.asgs at e; cases e
        | cons d ds =>
          dsimp only at e
          unfold Tg.asgs at e
          dsimp only at e
          cases z : Tg.asg pw t d env with
          | none => rw [z] at e; cases e
          | some e1 =>
            rw [z] at e
            have : ∀ (ts : List Tg) (ds : List D) (en : En), Tg.asgs pw ts ds en = some e' → ts.length = ds.length := by
              intro ts
              induction ts with
              | nil => intro ds en q; cases ds with
                | nil => rfl
                | cons _ _ => unfold Tg.asgs at q; cases q
              | cons t ts ih => intro ds en q; cases ds with
                | nil => unfold Tg.asgs at q; cases q
                | cons d ds =>
                  unfold Tg.asgs at q
                  dsimp only at q
                  cases z : Tg.asg pw t d en with
                  | none => rw [z] at q; cases q
                  | some e1 => rw [z] at q; simp [ih _ _ q]
            simp [this _ _ _ e]
    exact ⟨a, vs, rfl, SqT.mono S.le s, by rw [ra.length, hl], F, env, ds, e', S, ra, e, fun σ' S' x l o p => q σ' S' x l (fun i hi => o i (by simpa [Tg.slots] using hi)) p⟩
  | _ => cases e

/-! ### what is walked -/
def ItOk (K : PySem.W.Frag) (F : Hp) (J : It) (xs : List D) : Prop := ∀ (F2 H2 : Hp) (i : Nat), FLe F F2 → FLe F2 H2 →
  (∀ d, xs[i]? = some d → J.go i H2 ∧ ∀ x H3, J.yld i H2 x H3 → ∃ F3, New K F2 H2 F3 H3 (.fz d) x) ∧ (xs.length ≤ i → J.stop i H2)
variable {XC : Str → Value → Prop} {C : Calls} {W : WX}
def tIt (K : PySem.W.Frag) (XC : Str → Value → Prop) (C : Calls) (W : WX) (ik : List D → Option (List D)) (ies : List E) : TI := fun σ H R => ∃ F env, St K F env σ H ∧
  (evs C ies env).wish (fun ds env' => ∃ xs, ik ds = some xs ∧ ∀ F' H' J, St K F' env' σ H' → Ext F env σ H F' env' σ H' → ItOk K F' J xs → R J H') fun c ps env' => exP K XC W F env σ H c ps env'
theorem _root_.L2.PI.imp' {tg iter : Expr} {t t' : TI} (h : PI X tg iter t) (i : ∀ σ H R, t' σ H R → t σ H R) : PI X tg iter t' := ⟨fun pins s σ H R I q => h.run pins s σ H R I (i _ _ _ q)⟩

theorem it_list {K : PySem.W.Frag} {F : Hp} {a : Addr} {vs : List V} {ds : List D} (s : SqL K F a vs) (r : RepAll K F ds vs) : ItOk K F (Itl K a) ds := fun F2 H2 i l l2 => by
  have s2 := SqL.mono (l.trans l2) s
  refine ⟨fun d e => ?_, fun h => ⟨vs, s2, by rw [r.length]; exact h⟩⟩
  obtain ⟨v, hv, rv⟩ := r.get e
  refine ⟨⟨vs, v, s2, hv⟩, fun x H3 y => ?_⟩
  obtain ⟨rfl, y⟩ := y
  have := y vs s2
  rw [hv] at this; cases this
  exact ⟨F2, new_scal l2 (Rep.mono l _ _ rv)⟩
theorem it_tup {K : PySem.W.Frag} {F : Hp} {a : Addr} {vs : List V} {ds : List D} (s : SqT K F a vs) (r : RepAll K F ds vs) : ItOk K F (Itt K a) ds := fun F2 H2 i l l2 => by
  have s2 := SqT.mono (l.trans l2) s
  refine ⟨fun d e => ?_, fun h => ⟨vs, s2, by rw [r.length]; exact h⟩⟩
  obtain ⟨v, hv, rv⟩ := r.get e
  refine ⟨⟨vs, v, s2, hv⟩, fun x H3 y => ?_⟩
  obtain ⟨rfl, y⟩ := y
  have := y vs s2
  rw [hv] at this; cases this
  exact ⟨F2, new_scal l2 (Rep.mono l _ _ rv)⟩
def rangeD (lo : Int) (n : Nat) : List D := (List.range n).map fun i => .int (lo + (i : Nat))
theorem it_range {K : PySem.W.Frag} {F : Hp} {lo : Int} {n : Nat} : ItOk K F (Itr lo n) (rangeD lo n) := fun F2 H2 i l l2 => by
  refine ⟨fun d e => ?_, fun h => by simpa [rangeD, Itr] using h⟩
  have hi : i < n := by have := (List.getElem?_eq_some_iff.mp e).1; simpa [rangeD] using this
  have : d = .int (lo + (i : Nat)) := by
    simp [rangeD, hi] at e; exact e.symm
  subst this
  refine ⟨hi, fun x H3 y => ?_⟩
  obtain ⟨rfl, rfl⟩ := y
  exact ⟨F2, new_scal l2 (by unfold Rep; rfl)⟩
theorem new_pair {K : PySem.W.Frag} {F H : Hp} {T : Addr} {d e : D} {x y : V} (l : FLe F H) (h : H T = none) (r1 : Rep K F d x) (r2 : Rep K F e y) : New K F H (upd F T (.tup [x, y])) (upd H T (.tup [x, y])) (.fz (.tup [d, e])) (.ref T) :=
  new_tup l h ⟨x, [y], rfl, r1, y, [], rfl, r2, rfl⟩
def enumD (n : Nat) : List D → List D
  | [] => []
  | d :: ds => .tup [.int n, d] :: enumD (n + 1) ds
theorem enumD_get : ∀ {ds : List D} {n i : Nat}, (enumD n ds)[i]? = (ds[i]?).map fun d => .tup [.int ((n + i : Nat) : Int), d]
  | [], n, i => by simp [enumD]
  | d :: ds, n, 0 => by simp [enumD]
  | d :: ds, n, i + 1 => by
    simp only [enumD, List.getElem?_cons_succ]
    rw [enumD_get]
    have : n + 1 + i = n + (i + 1) := by omega
    rw [this]
theorem enumD_length : ∀ {ds : List D} {n : Nat}, (enumD n ds).length = ds.length
  | [], n => rfl
  | d :: ds, n => by simp [enumD, enumD_length]
theorem it_enum {K : PySem.W.Frag} {F : Hp} {a : Addr} {vs : List V} {ds : List D} (s : SqL K F a vs) (r : RepAll K F ds vs) : ItOk K F (Ite K a) (enumD 0 ds) := fun F2 H2 i l l2 => by
  have s2 := SqL.mono (l.trans l2) s
  refine ⟨fun d e => ?_, fun h => ⟨vs, s2, by rw [r.length]; simpa [enumD_length] using h⟩⟩
  rw [enumD_get] at e
  cases q : ds[i]? with
  | none => rw [q] at e; cases e
  | some d' =>
    rw [q] at e
    simp only [Option.map_some, Option.some.injEq] at e
    subst e
    obtain ⟨v, hv, rv⟩ := r.get q
    refine ⟨⟨vs, v, s2, hv⟩, fun x H3 y => ?_⟩
    obtain ⟨T, z, rfl, hT, rfl, y⟩ := y
    have := y vs s2
    rw [hv] at this; cases this
    exact ⟨_, new_pair l2 hT (by simp [Rep]) (Rep.mono l _ _ rv)⟩
def zipD : List D → List D → List D
  | d :: ds, e :: es => .tup [d, e] :: zipD ds es
  | _, _ => []
theorem zipD_get : ∀ {ds es : List D} {i : Nat} {d : D}, (zipD ds es)[i]? = some d → ∃ a b, ds[i]? = some a ∧ es[i]? = some b ∧ d = .tup [a, b]
  | [], es, i, d, h => by simp [zipD] at h
  | d :: ds, [], i, d', h => by simp [zipD] at h
  | d :: ds, e :: es, 0, d', h => by simp [zipD] at h; exact ⟨d, e, rfl, rfl, h.symm⟩
  | d :: ds, e :: es, i + 1, d', h => by
    obtain ⟨a, b, h1, h2, h3⟩ := zipD_get (ds := ds) (es := es) (i := i) (by simpa [zipD] using h)
    exact ⟨a, b, by simpa using h1, by simpa using h2, h3⟩
theorem zipD_length : ∀ {ds es : List D}, (zipD ds es).length = min ds.length es.length
  | [], es => by simp [zipD]
  | d :: ds, [] => by simp [zipD]
  | d :: ds, e :: es => by simp [zipD, zipD_length]
theorem it_zip {K : PySem.W.Frag} {F : Hp} {a b : Addr} {vs ws : List V} {ds es : List D} (s : SqL K F a vs) (s' : SqL K F b ws) (r : RepAll K F ds vs) (r' : RepAll K F es ws) : ItOk K F (Itz K a b) (zipD ds es) := fun F2 H2 i l l2 => by
  have s2 := SqL.mono (l.trans l2) s
  have s2' := SqL.mono (l.trans l2) s'
  refine ⟨fun d e => ?_, fun h => ⟨vs, ws, s2, s2', by rw [r.length, r'.length]; rw [zipD_length] at h; omega⟩⟩
  obtain ⟨d1, d2, h1, h2, rfl⟩ := zipD_get e
  obtain ⟨v, hv, rv⟩ := r.get h1
  obtain ⟨w, hw, rw'⟩ := r'.get h2
  refine ⟨⟨vs, ws, v, w, s2, s2', hv, hw⟩, fun x H3 y => ?_⟩
  obtain ⟨T, z, z', rfl, hT, rfl, y, y'⟩ := y
  have := y vs s2
  rw [hv] at this; cases this
  have := y' ws s2'
  rw [hw] at this; cases this
  exact ⟨_, new_pair l2 hT (Rep.mono l _ _ rv) (Rep.mono l _ _ rw')⟩
theorem it_zipT {K : PySem.W.Frag} {F : Hp} {a b : Addr} {vs ws : List V} {ds es : List D} (s : SqT K F a vs) (s' : SqT K F b ws) (r : RepAll K F ds vs) (r' : RepAll K F es ws) : ItOk K F (RZ.ItzT K a b) (zipD ds es) := fun F2 H2 i l l2 => by
  have s2 := SqT.mono (l.trans l2) s
  have s2' := SqT.mono (l.trans l2) s'
  refine ⟨fun d e => ?_, fun h => ⟨vs, ws, s2, s2', by rw [r.length, r'.length]; rw [zipD_length] at h; omega⟩⟩
  obtain ⟨d1, d2, h1, h2, rfl⟩ := zipD_get e
  obtain ⟨v, hv, rv⟩ := r.get h1
  obtain ⟨w, hw, rw'⟩ := r'.get h2
  refine ⟨⟨vs, ws, v, w, s2, s2', hv, hw⟩, fun x H3 y => ?_⟩
  obtain ⟨T, z, z', rfl, hT, rfl, y, y'⟩ := y
  have := y vs s2
  rw [hv] at this; cases this
  have := y' ws s2'
  rw [hw] at this; cases this
  exact ⟨_, new_pair l2 hT (Rep.mono l _ _ rv) (Rep.mono l _ _ rw')⟩
/-- the items of what is walked, by kind -/
def ikVal : List D → Option (List D)
  | [.lst xs] => some xs
  | [.tup xs] => some xs
  | _ => none
def ikRange1 : List D → Option (List D)
  | [.int j] => if j.natAbs < 4611686018427387904 then some (rangeD 0 j.toNat) else none
  | _ => none
def ikRange2 : List D → Option (List D)
  | [.int i, .int j] => if i.natAbs < 4611686018427387904 ∧ j.natAbs < 4611686018427387904 then some (rangeD i (j - i).toNat) else none
  | _ => none
def ikList : List D → Option (List D)
  | [.lst xs] => some xs
  | _ => none
def ikTup : List D → Option (List D)
  | [.tup xs] => some xs
  | _ => none
def ikEnum : List D → Option (List D)
  | [.lst xs] => some (enumD 0 xs)
  | _ => none
def ikZip : List D → Option (List D)
  | [.lst xs, .lst ys] => some (zipD xs ys)
  | [.tup xs, .tup ys] => some (zipD xs ys)
  | _ => none
variable {tg iter a b : Expr} {A B : E} {p pos : Pos}
/-- the arguments of an iterable are frozen: its wish from its items' -/
theorem tIt_bind {ik : List D → Option (List D)} {ies : List E} {σ : L2.St} {H : Hp} {R : It → Hp → Prop} {Q1 : List V → Hp → Prop} (h : tIt X.K XC C W ik ies σ H R)
    (g : ∀ (F1 H1 : Hp) (ds xs : List D) (vs : List V), ik ds = some xs → FLe F1 H1 → RepAll X.K F1 ds vs → (∀ J, ItOk X.K F1 J xs → R J H1) → Q1 vs H1) : tFs X.K XC C W ies σ H Q1 := by
  obtain ⟨F, env, S, h⟩ := h
  refine ⟨F, env, S, ?_⟩
  cases e : evs C ies env with
  | ok ds env1 =>
    rw [e] at h
    obtain ⟨xs, hx, h⟩ := h
    intro F1 H1 vs P o
    exact g F1 H1 ds xs vs hx P.base.le (P.st.frozen P.len o) fun J hJ => h F1 H1 J P.base P.bext hJ
  | ex c ps env1 => rw [e] at h; exact h
  | no => rw [e] at h; exact h
theorem tF_of {A : E} {σ : L2.St} {H : Hp} {Q : VK} (h : tFs X.K XC C W [A] σ H (fun vs H => ∀ v, vs = [v] → Q v H)) : tF X.K XC C W A σ H Q := by
  change tM X.K XC W (frozen (ev C A)) (fun d => [Ent.fz d]) (fun _ _ vs => ∃ v, vs = [v]) σ H (one Q)
  refine tM_bind (m := frozen (ev C A)) (f := fun d e => .ok [d] e) (peβ := fun ds => ds.map .fz) (okβ := fun ds _ vs => vs.length = ds.length) (Q := fun _ vs H => ∀ v, vs = [v] → Q v H) (by
    have : evs C [A] = fun e => (frozen (ev C A) e).bind fun d e => .ok [d] e := by
      funext e; simp only [evs]
      cases frozen (ev C A) e <;> rfl
    rw [← this]; exact h) fun F env F1 env1 x vs H1 S em P o g v ev_ => ?_
  obtain ⟨v', rfl⟩ := o
  exact g F1 H1 _ P rfl v ev_
end
end PI

end

section
set_option maxRecDepth 100000
set_option maxHeartbeats 1000000
/-! Pi10: the rules of what is walked; comprehensions. -/
namespace PI
open PySem PySem.Spec PyProof.Rows L2
section
variable {X : Cx} {XC : Str → Value → Prop} {C : Calls} {W : WX} {tg l a b : Expr} {A B : E} {p pos : Pos}
/-- a list or a tuple is walked -/
def iSeq (K : PySem.W.Frag) (tl : TE) : TI := fun σ H R => tl σ H fun x H1 => ∃ q, x = .ref q ∧ ((∃ ys, SqL K H1 q ys ∧ R (Itl K q) H1) ∨ ∃ ys, SqT K H1 q ys ∧ R (Itt K q) H1)
/-- the iterator's record, laid last -/
theorem seq_end {J : It} {tn : Nat → Heap → Prop} {pins : List (Addr × Obj)} {σ : L2.St} {G : Hp} {z : Shared} {R : It → Hp → Prop} (o : Obj) (J1 : L2.Inv X pins σ G z) (T : Turn X.prog X.w X.K tg J [z.heap.objs.size] z.heap.objs.size tn) (h0 : tn 0 (z.heap.push o)) (r : R J G) :
    PIE X pins σ tg R (.ref z.heap.objs.size) { z with heap := z.heap.push o } := by
  have fresh := J1.hok.fresh (Nat.le_refl z.heap.objs.size)
  have kept : L2.Inv X pins σ G { z with heap := z.heap.push o } := J1.kept (t' := z.toks) fun c u hc => Heap.get?_push_of_some o hc
  refine ⟨z.heap.objs.size, [z.heap.objs.size], tn, J, G, rfl, kept, T, h0, ?_, r⟩
  intro c hc
  rw [List.mem_singleton] at hc
  rw [hc]
  exact J1.fpOk (Nat.le_refl _) fresh
theorem pi_seq {tl : TE} (hl : PE X l tl) : PI X tg l (iSeq X.K tl) := by
  constructor
  intro pins z σ G R J h
  refine thn (hl.run pins z σ G _ J h) ?_
  rintro v z1 ⟨x, G1, J1, rv, q, rfl, w⟩
  cases rv
  rcases w with ⟨ys, s, r⟩ | ⟨ys, s, r⟩
  · obtain ⟨us, _, pl, _⟩ := J1.list s
    exact wpAny_pyIter_list pl.isList (seq_end _ J1 (turn_list q _) ⟨_, Heap.get?_push_size _ rfl, rfl, rfl⟩ r)
  · obtain ⟨us, _, pl, _⟩ := J1.tuple s
    exact wpAny_pyIter_tuple (show z1.heap.IsTuple q us.toArray from pl) (seq_end _ J1 (turn_tuple q _) ⟨_, Heap.get?_push_size _ rfl, rfl, rfl⟩ r)
theorem ikVal_some {ds xs : List D} (h : ikVal ds = some xs) : ∃ ys, (ds = [.lst ys] ∨ ds = [.tup ys]) ∧ xs = ys := by
  unfold ikVal at h
  split at h
  · exact ⟨_, .inl rfl, (Option.some.inj h).symm⟩
  · exact ⟨_, .inr rfl, (Option.some.inj h).symm⟩
  · cases h
theorem si_val (ha : PE X a (tE X.K XC C W A)) : PI X tg a (tIt X.K XC C W ikVal [A]) := (pi_seq (se_f ha)).imp' fun σ H R h => by
  refine tF_of (tIt_bind h fun F1 H1 ds xs vs hx l r g v ev_ => ?_)
  subst ev_
  obtain ⟨ds, h1 | h1, rfl⟩ := ikVal_some hx
  · subst h1
    obtain ⟨v', vr, e, ⟨a, vs, rfl, s, ra⟩, q⟩ := r
    cases e
    exact ⟨a, rfl, .inl ⟨vs, SqL.of (l _ _ s), g _ (it_list (SqL.of s) ra)⟩⟩
  · subst h1
    obtain ⟨v', vr, e, ⟨a, vs, rfl, s, ra⟩, q⟩ := r
    cases e
    exact ⟨a, rfl, .inr ⟨vs, SqT.mono l s, g _ (it_tup s ra)⟩⟩
theorem ikRange1_some {ds xs : List D} (h : ikRange1 ds = some xs) : ∃ j : Int, ds = [.int j] ∧ -(2 ^ 62) ≤ j ∧ j < 2 ^ 62 ∧ xs = rangeD 0 j.toNat := by
  unfold ikRange1 at h
  split at h
  · split at h
    · rename_i j hj
      exact ⟨_, rfl, by omega, by omega, (Option.some.inj h).symm⟩
    · cases h
  · cases h
theorem ikRange2_some {ds xs : List D} (h : ikRange2 ds = some xs) : ∃ i j : Int, ds = [.int i, .int j] ∧ (-(2 ^ 62) ≤ i ∧ i < 2 ^ 62 ∧ -(2 ^ 62) ≤ j ∧ j < 2 ^ 62) ∧ xs = rangeD i (j - i).toNat := by
  unfold ikRange2 at h
  split at h
  · split at h
    · rename_i hj
      exact ⟨_, _, rfl, by omega, (Option.some.inj h).symm⟩
    · cases h
  · cases h
theorem ikEnum_some {ds xs : List D} (h : ikEnum ds = some xs) : ∃ ys, ds = [.lst ys] ∧ xs = enumD 0 ys := by
  unfold ikEnum at h
  split at h
  · exact ⟨_, rfl, (Option.some.inj h).symm⟩
  · cases h
theorem ikZip_some {ds xs : List D} (h : ikZip ds = some xs) : ∃ ys zs, (ds = [.lst ys, .lst zs] ∨ ds = [.tup ys, .tup zs]) ∧ xs = zipD ys zs := by
  unfold ikZip at h
  split at h
  · exact ⟨_, _, .inl rfl, (Option.some.inj h).symm⟩
  · exact ⟨_, _, .inr rfl, (Option.some.inj h).symm⟩
  · cases h
theorem si_range1 (hg : Gl X "range") (hm : X.mg "range" = none) (ha : PA X [a] (tFs X.K XC C W [A])) (hs : starEach [a] X.env = [(false, eval a X.env)] := by rfl) : PI X tg (.Call (.Name "range" p) [a] [] pos) (tIt X.K XC C W ikRange1 [A]) := (pi_range1 hg hm ha hs).imp' fun σ H R h => by
  refine tIt_bind h fun F1 H1 ds xs vs hx l r g => ?_
  obtain ⟨j, rfl, h1, h2, rfl⟩ := ikRange1_some hx
  obtain ⟨v, vr, rfl, q1, q2⟩ := r
  cases (show vr = [] from q2)
  cases (show v = _ from q1)
  exact ⟨j, rfl, h1, h2, g _ it_range⟩
theorem si_range2 (hg : Gl X "range") (hm : X.mg "range" = none) (ha : PA X [a, b] (tFs X.K XC C W [A, B])) (hs : starEach [a, b] X.env = [(false, eval a X.env), (false, eval b X.env)] := by rfl) (hs2 : starEach [b] X.env = [(false, eval b X.env)] := by rfl) :
    PI X tg (.Call (.Name "range" p) [a, b] [] pos) (tIt X.K XC C W ikRange2 [A, B]) := (pi_range2 hg hm ha hs hs2).imp' fun σ H R h => by
  refine tIt_bind h fun F1 H1 ds xs vs hx l r g => ?_
  obtain ⟨i, j, rfl, h1, rfl⟩ := ikRange2_some hx
  obtain ⟨v, vr, rfl, q1, w, wr, rfl, q2, q3⟩ := r
  cases (show wr = [] from q3)
  cases (show v = _ from q1)
  cases (show w = _ from q2)
  exact ⟨i, j, rfl, h1, g _ it_range⟩
theorem si_enum {elts : List Expr} {kk : Nat} {tpos : Pos} (hg : Gl X "enumerate") (hm : X.mg "enumerate" = none) (ha : PA X [a] (tFs X.K XC C W [A])) (hs : starEach [a] X.env = [(false, eval a X.env)] := by rfl) : PI X (.Tuple elts kk tpos) (.Call (.Name "enumerate" p) [a] [] pos) (tIt X.K XC C W ikEnum [A]) := (pi_enum hg hm ha hs).imp' fun σ H R h => by
  refine tIt_bind h fun F1 H1 ds xs vs hx l r g => ?_
  obtain ⟨ys, rfl, rfl⟩ := ikEnum_some hx
  obtain ⟨v, vr, rfl, q1, q2⟩ := r
  cases (show vr = [] from q2)
  obtain ⟨a, vs, rfl, s, ra⟩ := q1
  exact ⟨a, vs, rfl, SqL.of (l _ _ s), g _ (it_enum (SqL.of s) ra)⟩
theorem si_zip {elts : List Expr} {kk : Nat} {tpos : Pos} (hg : Gl X "zip") (hm : X.mg "zip" = none) (ha : PA X [a, b] (tFs X.K XC C W [A, B])) (hs : starEach [a, b] X.env = (false, eval a X.env) :: starEach [b] X.env := by rfl) (hpl : (backTo pos (starEach [b] X.env)).any (·.1) = false := by rfl) :
    PI X (.Tuple elts kk tpos) (.Call (.Name "zip" p) [a, b] [] pos) (tIt X.K XC C W ikZip [A, B]) := (RZ.pi_zipA hg hm ha hs hpl).imp' fun σ H R h => by
  refine tIt_bind h fun F1 H1 ds xs vs hx l r g => ?_
  obtain ⟨ys, zs, h1 | h1, rfl⟩ := ikZip_some hx
  · subst h1
    obtain ⟨v, vr, rfl, ⟨a, us, rfl, s, ra⟩, w, wr, rfl, ⟨b, ws, rfl, s', rb⟩, q3⟩ := r
    cases (show wr = [] from q3)
    exact ⟨a, b, us, ws, rfl, .inl ⟨SqL.of (l _ _ s), SqL.of (l _ _ s'), g _ (it_zip (SqL.of s) (SqL.of s') ra rb)⟩⟩
  · subst h1
    obtain ⟨v, vr, rfl, ⟨a, us, rfl, s, ra⟩, w, wr, rfl, ⟨b, ws, rfl, s', rb⟩, q3⟩ := r
    cases (show wr = [] from q3)
    exact ⟨a, b, us, ws, rfl, .inr ⟨SqT.mono l s, SqT.mono l s', g _ (it_zipT s s' ra rb)⟩⟩
end
end PI

end

section
set_option maxRecDepth 100000
set_option maxHeartbeats 1000000
/-! Pi11: comprehensions. -/
namespace PI
open PySem PySem.Spec PyProof.Rows L2

def hidE (e : En) (own : List Nat) : En := (List.range e.length).map fun i => if i ∈ own then (e[i]?).getD .un else .un
theorem hidE_length (e : En) (own : List Nat) : (hidE e own).length = e.length := by simp [hidE]
theorem hidE_get {e : En} {own : List Nat} {i : Nat} {r : Ent} (h : (hidE e own)[i]? = some r) (hr : r ≠ .un) : i ∈ own ∧ e[i]? = some r := by
  have hi : i < e.length := by have := (List.getElem?_eq_some_iff.mp h).1; simpa [hidE] using this
  simp only [hidE, List.getElem?_map, List.getElem?_range hi, Option.map_some, Option.some.injEq] at h
  split at h
  · rename_i hm
    refine ⟨hm, ?_⟩
    rw [List.getElem?_eq_getElem hi] at h ⊢
    simp at h; rw [h]
  · exact (hr h.symm).elim
theorem hidE_in {e : En} {own : List Nat} {i : Nat} (hm : i ∈ own) {r : Ent} (h : e[i]? = some r) : (hidE e own)[i]? = some r := by
  have hi : i < e.length := (List.getElem?_eq_some_iff.mp h).1
  simp [hidE, hi, hm]
  rw [List.getElem?_eq_getElem hi] at h
  exact Option.some.inj h
theorem wipe_get {σ : L2.St} {i : Nat} : ∀ {vs : List Nat}, i ∉ vs → (wipe σ vs)[i]? = σ[i]?
  | [], _ => rfl
  | v :: vs, h => by
    simp only [List.mem_cons, not_or] at h
    unfold wipe
    rw [List.getElem?_set_ne (Ne.symm h.1)]
    exact wipe_get h.2
theorem wipe_in {σ : L2.St} {i : Nat} (hi : i < σ.length) : ∀ {vs : List Nat}, i ∈ vs → (wipe σ vs)[i]? = some none
  | [], h => by simp at h
  | v :: vs, h => by
    unfold wipe
    by_cases e : v = i
    · subst e; rw [List.getElem?_set_self (by rw [wipe_length]; exact hi)]
    · rw [List.getElem?_set_ne e]
      exact wipe_in hi (by rcases List.mem_cons.mp h with z | z; exact (e z.symm).elim; exact z)
theorem wipe_congr {σ σ2 : L2.St} {own : List Nat} (hl : σ2.length = σ.length) (h : ∀ i, i ∉ own → σ2[i]? = (wipe σ own)[i]?) : wipe σ2 own = wipe σ own := by
  apply List.ext_getElem?
  intro i
  by_cases hm : i ∈ own
  · by_cases hi : i < σ.length
    · rw [wipe_in hi hm, wipe_in (by omega) hm]
    · rw [List.getElem?_eq_none (by rw [wipe_length]; omega), List.getElem?_eq_none (by rw [wipe_length]; omega)]
  · rw [wipe_get hm]; exact h i hm
theorem wipeE_get' {e : En} {i : Nat} : ∀ {is : List Nat}, i ∉ is → (wipeE e is)[i]? = e[i]?
  | [], _ => rfl
  | v :: vs, h => by
    simp only [List.mem_cons, not_or] at h
    unfold wipeE
    rw [List.getElem?_set_ne (Ne.symm h.1)]
    exact wipeE_get' h.2
theorem backE_length (e0 e : En) : ∀ is : List Nat, (backE e0 e is).length = e.length
  | [] => rfl
  | i :: is => by unfold backE; rw [List.length_set, backE_length]
theorem backE_get {e0 e : En} {i : Nat} {r : Ent} (hr : r ≠ .un) : ∀ {is : List Nat}, (backE e0 e is)[i]? = some r → (i ∈ is ∧ e0[i]? = some r) ∨ (i ∉ is ∧ e[i]? = some r)
  | [], h => .inr ⟨by simp, h⟩
  | k :: is, h => by
    unfold backE at h
    rcases getElem?_set_cases h with ⟨rfl, h2, _⟩ | ⟨ne, h⟩
    · refine .inl ⟨by simp, ?_⟩
      cases q : e0[i]? with
      | none => rw [q] at h2; exact (hr h2).elim
      | some u => rw [q] at h2; simp at h2; rw [h2]
    · rcases backE_get hr h with ⟨h1, h2⟩ | ⟨h1, h2⟩
      · exact .inl ⟨List.mem_cons_of_mem _ h1, h2⟩
      · exact .inr ⟨by simp only [List.mem_cons, not_or]; exact ⟨ne, h1⟩, h2⟩
theorem compLoop_noex {tg : Tg} {own : List Nat} {test : En → Res Bool} {elt : En → Res D} : ∀ {xs acc : List D} {e e' : En} {c : Str} {ps : List D}, compLoop tg own test elt xs acc e ≠ .ex c ps e'
  | [], acc, e, e', c, ps, h => by unfold compLoop at h; cases h
  | x :: xs, acc, e, e', c, ps, h => by
    unfold compLoop at h
    split at h
    · cases h
    · split at h
      · split at h
        · split at h
          · exact compLoop_noex h
          · cases h
        · cases h
      · exact compLoop_noex h
      · cases h
section
variable {K : PySem.W.Frag} {F H : Hp} {own : List Nat}
/-- the state ahead of the loop -/
theorem comp_start {env : En} {σ : L2.St} {o : Ent} {D : Addr} (S : St K F (env ++ [o]) (σ ++ [some (.ref D)]) H) (hl : env.length = σ.length) :
    St K F (wipeE env own ++ ([o] ++ hidE env own)) (wipe σ own ++ ([some (.ref D)] ++ σ)) H ∧ Ext F (env ++ [o]) (σ ++ [some (.ref D)]) H F (wipeE env own ++ ([o] ++ hidE env own)) (wipe σ own ++ ([some (.ref D)] ++ σ)) H := by
  refine S.rel (fun j k => (j < env.length ∧ k = j ∧ j ∉ own) ∨ (j = env.length ∧ k = j) ∨ (env.length < j ∧ k = j - env.length - 1 ∧ k < env.length ∧ k ∈ own)) (by simp [wipeE_length, wipe_length, hidE_length, hl]) ?_ ?_
  · rintro i j k (⟨h1, h0, h2⟩ | ⟨h1, h0⟩ | ⟨h1, h2, h3, h4⟩) (⟨g1, g0, g3⟩ | ⟨g1, g0⟩ | ⟨g1, g2, g3, g4⟩)
    · omega
    · omega
    · exact (h2 (h0 ▸ g4)).elim
    · omega
    · omega
    · omega
    · exact (g3 (g0 ▸ h4)).elim
    · omega
    · omega
  · intro i r e hr
    by_cases hi : i < env.length
    · rw [List.getElem?_append_left (by rw [wipeE_length]; exact hi)] at e
      obtain ⟨h1, h2⟩ := wipeE_get hr e
      refine ⟨i, .inl ⟨hi, rfl, h2⟩, by rw [List.getElem?_append_left hi]; exact h1, fun v ev_ => ?_⟩
      rw [List.getElem?_append_left (by omega)] at ev_
      rw [List.getElem?_append_left (by rw [wipe_length]; omega), wipe_get h2]
      exact ev_
    · rw [List.getElem?_append_right (by rw [wipeE_length]; omega), wipeE_length] at e
      by_cases hj : i = env.length
      · subst hj
        simp at e
        subst e
        refine ⟨env.length, .inr (.inl ⟨rfl, rfl⟩), by simp, fun v ev_ => ?_⟩
        rw [hl] at ev_ ⊢
        simp at ev_
        rw [List.getElem?_append_right (by rw [wipe_length]; omega), wipe_length]
        simp [ev_]
      · rw [List.getElem?_append_right (by simp; omega)] at e
        simp only [List.length_cons, List.length_nil] at e
        obtain ⟨h1, h2⟩ := hidE_get e hr
        have h3 := (List.getElem?_eq_some_iff.mp h2).1
        refine ⟨i - env.length - 1, .inr (.inr ⟨by omega, rfl, h3, h1⟩), by rw [List.getElem?_append_left h3]; exact h2, fun v ev_ => ?_⟩
        rw [List.getElem?_append_left (by omega)] at ev_
        rw [List.getElem?_append_right (by rw [wipe_length]; omega), wipe_length, List.getElem?_append_right (by simp; omega)]
        simp only [List.length_cons, List.length_nil]
        rw [← hl]; exact ev_
/-- behind a turn -/
theorem comp_turn {e pe hid : En} {σ2 σ : L2.St} {pv : L2.St} {o : Ent} {D : Addr} (S : St K F ((e ++ pe) ++ ([o] ++ hid)) ((σ2 ++ pv) ++ ([some (.ref D)] ++ σ)) H) (hl : e.length = σ2.length) (hp : pe.length = pv.length) :
    St K F (wipeE e own ++ ([o] ++ hid)) (wipe σ2 own ++ ([some (.ref D)] ++ σ)) H ∧ Ext F ((e ++ pe) ++ ([o] ++ hid)) ((σ2 ++ pv) ++ ([some (.ref D)] ++ σ)) H F (wipeE e own ++ ([o] ++ hid)) (wipe σ2 own ++ ([some (.ref D)] ++ σ)) H := by
  have hs := S.len
  simp only [List.length_append] at hs
  refine S.rel (fun j k => (j < e.length ∧ k = j ∧ j ∉ own) ∨ (e.length ≤ j ∧ k = j + pe.length)) (by simp only [List.length_append, wipeE_length, wipe_length]; omega) ?_ ?_
  · rintro i j k (⟨h1, h2, h3⟩ | ⟨h1, h2⟩) (⟨g1, g2, g3⟩ | ⟨g1, g2⟩) <;> omega
  · intro i r er hr
    by_cases hi : i < e.length
    · rw [List.getElem?_append_left (by rw [wipeE_length]; exact hi)] at er
      obtain ⟨h1, h2⟩ := wipeE_get hr er
      refine ⟨i, .inl ⟨hi, rfl, h2⟩, by rw [List.getElem?_append_left (by simp; omega), List.getElem?_append_left hi]; exact h1, fun v ev_ => ?_⟩
      rw [List.getElem?_append_left (by simp; omega), List.getElem?_append_left (by omega)] at ev_
      rw [List.getElem?_append_left (by rw [wipe_length]; omega), wipe_get h2]
      exact ev_
    · rw [List.getElem?_append_right (by rw [wipeE_length]; omega), wipeE_length] at er
      refine ⟨i + pe.length, .inr ⟨by omega, rfl⟩, ?_, fun v ev_ => ?_⟩
      · rw [List.getElem?_append_right (by simp; omega)]
        have : i + pe.length - (e ++ pe).length = i - e.length := by simp; omega
        rw [this]; exact er
      · rw [List.getElem?_append_right (by simp; omega)] at ev_
        have : i + pe.length - (σ2 ++ pv).length = i - e.length := by simp; omega
        rw [this] at ev_
        rw [List.getElem?_append_right (by rw [wipe_length]; omega), wipe_length, ← hl]
        exact ev_
/-- behind the loop -/
theorem comp_end {e env : En} {σ : L2.St} {o : Ent} {D : Addr} (S : St K F (wipeE e own ++ ([o] ++ hidE env own)) (wipe σ own ++ ([some (.ref D)] ++ σ)) H) (he : e.length = env.length) (hl : env.length = σ.length) :
    St K F (backE env e own ++ [o]) (σ ++ [some (.ref D)]) H ∧ Ext F (wipeE e own ++ ([o] ++ hidE env own)) (wipe σ own ++ ([some (.ref D)] ++ σ)) H F (backE env e own ++ [o]) (σ ++ [some (.ref D)]) H := by
  refine S.rel (fun j k => (j < env.length ∧ k = j ∧ j ∉ own) ∨ (j = env.length ∧ k = j) ∨ (j < env.length ∧ k = env.length + 1 + j ∧ j ∈ own)) (by simp [backE_length, he, hl]) ?_ ?_
  · rintro i j k (⟨h1, h2, h3⟩ | ⟨h1, h2⟩ | ⟨h1, h2, h3⟩) (⟨g1, g2, g3⟩ | ⟨g1, g2⟩ | ⟨g1, g2, g3⟩) <;> omega
  · intro i r er hr
    by_cases hi : i < env.length
    · rw [List.getElem?_append_left (by rw [backE_length]; omega)] at er
      rcases backE_get hr er with ⟨h1, h2⟩ | ⟨h1, h2⟩
      · refine ⟨env.length + 1 + i, .inr (.inr ⟨hi, rfl, h1⟩), ?_, fun v ev_ => ?_⟩
        · rw [List.getElem?_append_right (by rw [wipeE_length]; omega), wipeE_length, List.getElem?_append_right (by simp; omega)]
          have : env.length + 1 + i - e.length - [o].length = i := by simp; omega
          rw [this]; exact hidE_in h1 h2
        · rw [List.getElem?_append_right (by rw [wipe_length]; omega), wipe_length, List.getElem?_append_right (by simp; omega)] at ev_
          have : env.length + 1 + i - σ.length - [some (V.ref D)].length = i := by simp; omega
          rw [this] at ev_
          rw [List.getElem?_append_left (by omega)]; exact ev_
      · refine ⟨i, .inl ⟨hi, rfl, h1⟩, ?_, fun v ev_ => ?_⟩
        · rw [List.getElem?_append_left (by rw [wipeE_length]; omega), wipeE_get' h1]; exact h2
        · rw [List.getElem?_append_left (by rw [wipe_length]; omega), wipe_get h1] at ev_
          rw [List.getElem?_append_left (by omega)]; exact ev_
    · have hb := (List.getElem?_eq_some_iff.mp er).1
      simp [backE_length, he] at hb
      have : i = env.length := by omega
      subst this
      rw [List.getElem?_append_right (by rw [backE_length]; omega), backE_length, he] at er
      simp at er; subst er
      refine ⟨env.length, .inr (.inl ⟨rfl, rfl⟩), ?_, fun v ev_ => ?_⟩
      · rw [List.getElem?_append_right (by rw [wipeE_length]; omega), wipeE_length, he]; simp
      · rw [List.getElem?_append_right (by rw [wipe_length]; omega), wipe_length, hl] at ev_
        rw [hl]; simp at ev_ ⊢; exact ev_
end
end PI

end

section
set_option maxRecDepth 100000
set_option maxHeartbeats 1000000
/-! Pi12: the comprehension's rule. -/
namespace PI
open PySem PySem.Spec PyProof.Rows L2
abbrev W0 : WX := fun _ _ _ _ => False
section
variable {K : PySem.W.Frag} {XC : Str → Value → Prop} {C : Calls} {W : WX}
theorem compLoop_step {tg : Tg} {own : List Nat} {test : En → Res Bool} {elt : En → Res D} {d : D} {xs acc r : List D} {e e' : En} (h : compLoop tg own test elt (d :: xs) acc e = .ok r e') :
    ∃ e1, Tg.asg [] tg d (wipeE e own) = some e1 ∧ ((∃ e2, test e1 = .ok false e2 ∧ compLoop tg own test elt xs acc e2 = .ok r e') ∨
      ∃ e2 dd e3, test e1 = .ok true e2 ∧ elt e2 = .ok dd e3 ∧ acc.length < sizeLine ∧ compLoop tg own test elt xs (acc ++ [dd]) e3 = .ok r e') := by
  unfold compLoop at h
  split at h
  · cases h
  · rename_i e1 q1
    refine ⟨e1, q1, ?_⟩
    split at h
    · rename_i e2 q2
      split at h
      · rename_i dd e3 q3
        split at h
        · rename_i q4
          exact .inr ⟨e2, dd, e3, q2, q3, q4, h⟩
        · cases h
      · cases h
    · rename_i e2 q2
      exact .inl ⟨e2, q2, h⟩
    · cases h
/-- what the turns of a comprehension bear -/
structure CompI (K : PySem.W.Frag) (tg : Tg) (own : List Nat) (test : En → Res Bool) (elt : En → Res D) (xs : List D) (F : Hp) (env : En) (σ : L2.St) (H : Hp) (F1 : Hp) (env1 : En) (D : Addr) (r : List PI.D) (e' : En) (i : Nat) (H2 : Hp) : Prop where
  ex : ∃ F2 e2 acc, i ≤ xs.length ∧ FLe F1 F2 ∧ e2.length = env1.length ∧ St K F2 (wipeE e2 own ++ ([.ow (.lst acc)] ++ hidE env1 own)) (wipe σ own ++ ([some (.ref D)] ++ σ)) H2 ∧
    Ext F env σ H F2 (wipeE e2 own ++ ([.ow (.lst acc)] ++ hidE env1 own)) (wipe σ own ++ ([some (.ref D)] ++ σ)) H2 ∧ compLoop tg own test elt (xs.drop i) acc e2 = .ok r e'
theorem t_lc {tg : Tg} {own : List Nat} {ik : List D → Option (List D)} {ies : List E} {cs : List T} {A : E} {σ : L2.St} {H : Hp} {Q : VK} (h : tE K XC C W (.comp own tg ik ies cs A) σ H Q) (ho : ∀ i ∈ tg.slots, i ∈ own) :
    tLc (tIt K XC C W ik ies) (tGt K [] tg) (tTs K XC C W0 cs) (tF K XC C W0 A) own σ H Q := by
  obtain ⟨F, env, S, h⟩ := h
  refine ⟨F, env, S, ?_⟩
  rw [ev] at h
  cases e1 : evs C ies env with
  | no => rw [e1] at h; exact h
  | ex c ps env1 => rw [e1] at h; exact h
  | ok ds env1 =>
    rw [e1] at h
    simp only [Res.bind] at h
    cases e2 : ik ds with
    | none => rw [e2] at h; exact h.elim
    | some xs =>
      rw [e2] at h
      dsimp only at h
      refine ⟨xs, e2, fun F1 H1 J S1 X1 hJ D hD => ?_⟩
      cases e3 : compLoop tg own (evTs C cs) (frozen (ev C A)) xs [] env1 with
      | no => rw [e3] at h; exact h.elim
      | ex c ps env2 => exact (compLoop_noex e3).elim
      | ok r e' =>
        rw [e3] at h
        replace h : ∀ F' H' vs, Post K F env σ H F' (backE env1 e' own) [Ent.ow (.lst r)] vs H' → okR (Ent.ow (.lst r)) σ vs → one Q (Ent.ow (.lst r)) vs H' := h
        have n1 := new_lst (K := K) (F := F1) (H := H1) (p := D) (vs := []) (ds := []) S1.le hD rfl
        obtain ⟨S2, X2⟩ := S1.new n1
        obtain ⟨S3, X3⟩ := comp_start (own := own) S2 S1.len
        let tst := evTs C cs
        let elt := frozen (ev C A)
        refine ⟨fun i m H2 => m = xs.length - i ∧ CompI K tg own (evTs C cs) (frozen (ev C A)) xs F env σ H F1 env1 D r e' i H2, ⟨xs.length, rfl, ⟨F1, env1, [], Nat.zero_le _, FLe.refl, rfl, S3, (X1.trans X2).trans X3, by simpa using e3⟩⟩, ?_⟩
        rintro i m H2 ⟨rfl, F2, e2, acc, hi, l12, le2, S4, X4, eL⟩
        by_cases hlt : i < xs.length
        · obtain ⟨d, hd⟩ : ∃ d, xs[i]? = some d := ⟨xs[i], by simp [hlt]⟩
          obtain ⟨go, yl⟩ := (hJ F2 H2 i l12 S4.le).1 d hd
          refine .inr ⟨go, fun H' => CompI K tg own (evTs C cs) (frozen (ev C A)) xs F env σ H F1 env1 D r e' (i + 1) H', fun H' c => ⟨xs.length - (i + 1), by omega, rfl, c⟩, fun x H3 y => ?_⟩
          obtain ⟨F3, n3⟩ := yl x H3 y
          have dr : xs.drop i = d :: xs.drop (i + 1) := by
            rw [List.drop_eq_getElem_cons hlt]
            rw [List.getElem?_eq_getElem hlt] at hd
            cases hd; rfl
          rw [dr] at eL
          obtain ⟨ea, a1, a2⟩ := compLoop_step eL
          obtain ⟨S5, X5⟩ := S4.new n3
          have lw : (wipeE e2 own).length = (wipe σ own).length := by rw [wipeE_length, wipe_length, le2]; exact S1.len
          have lbig : (wipeE e2 own ++ ([Ent.ow (.lst acc)] ++ hidE env1 own)).length = (wipe σ own ++ ([some (V.ref D)] ++ σ)).length := S4.len
          have S6 : St K F3 (wipeE e2 own ++ ([.ow (.lst acc)] ++ hidE env1 own)) (wipe σ own ++ ([some (.ref D)] ++ σ)) H3 := S5.left lbig
          have X6 := (X4.trans X5).trans (Ext.left lbig)
          have S6l : St K F3 (wipeE e2 own) (wipe σ own) H3 := S6.left lw
          refine ⟨F3, wipeE e2 own, d, ea, S6l, n3.ent, a1, fun σ2 S7 X7 l7 o7 _ => ?_⟩
          have lea : ea.length = env1.length := by rw [Tg.asg_length a1, wipeE_length, le2]
          have hw : wipe σ2 own = wipe σ own := wipe_congr (by rw [l7, wipe_length]) fun j hj => o7 j fun z => hj (ho j z)
          refine ⟨hw, ?_⟩
          have S8 := St.frame S6 lw S7 X7
          have X8 := X6.trans (Ext.frame (pe := [.ow (.lst acc)] ++ hidE env1 own) (ps := [some (.ref D)] ++ σ) lw S7.len X7)
          -- the tests
          rcases a2 with ⟨eb, t1, t2⟩ | ⟨eb, dd, ec, t1, t2, t3, t4⟩
          · refine ⟨F3, ea, S7, ?_⟩
            rw [t1]
            intro F4 H4 vs P _
            have hvs : vs = [] := List.length_eq_zero_iff.mp (by have := P.pl; simpa using this.symm)
            subst hvs
            dsimp only
            rw [if_neg (by decide)]
            have S9 := St.frame S8 S7.len P.base P.bext
            have X9 := X8.trans (Ext.frame (pe := [.ow (.lst acc)] ++ hidE env1 own) (ps := [some (.ref D)] ++ σ) S7.len P.len P.bext)
            have S9' : St K F4 ((eb ++ []) ++ ([.ow (.lst acc)] ++ hidE env1 own)) ((σ2 ++ []) ++ ([some (.ref D)] ++ σ)) H4 := by simpa using S9
            obtain ⟨Sa, Xa⟩ := comp_turn (own := own) S9' P.len rfl
            rw [hw] at Sa Xa
            refine ⟨F4, eb, acc, by omega, l12.trans (n3.le.trans P.ext.le), by have := P.len; have := S7.len; omega, Sa, X9.trans (by simpa using Xa), t2⟩
          · refine ⟨F3, ea, S7, ?_⟩
            rw [t1]
            intro F4 H4 vs P _
            have hvs : vs = [] := List.length_eq_zero_iff.mp (by have := P.pl; simpa using this.symm)
            subst hvs
            dsimp only
            rw [if_pos rfl]
            have S9 := St.frame S8 S7.len P.base P.bext
            have X9 := X8.trans (Ext.frame (pe := [.ow (.lst acc)] ++ hidE env1 own) (ps := [some (.ref D)] ++ σ) S7.len P.len P.bext)
            refine ⟨F4, eb, P.base, ?_⟩
            rw [t2]
            intro F5 H5 ws P5 _ y hy
            subst hy
            have Sa := St.frame S9 P.len P5.st P5.ext
            have lp : (ec ++ [Ent.fz dd]).length = (σ2 ++ [y].map some).length := by have := P5.len; simp [this]
            have Xa := X9.trans (Ext.frame (pe := [.ow (.lst acc)] ++ hidE env1 own) (ps := [some (.ref D)] ++ σ) P.len lp P5.ext)
            have ix : ((ec ++ [Ent.fz dd]) ++ ([Ent.ow (PI.D.lst acc)] ++ hidE env1 own))[(ec ++ [Ent.fz dd]).length]? = some (Ent.ow (PI.D.lst acc)) := by
              rw [List.getElem?_append_right (Nat.le_refl _)]; simp
            have sx : ((σ2 ++ [y].map some) ++ ([some (V.ref D)] ++ σ))[(ec ++ [Ent.fz dd]).length]? = some (some (.ref D)) := by
              rw [lp, List.getElem?_append_right (Nat.le_refl _)]; simp
            obtain ⟨v, q1, a, rfl, q2, q3⟩ := Sa.ent _ _ ix (by simp)
            rw [sx] at q1
            cases q1
            obtain ⟨accV, q4, q5⟩ := q3
            refine ⟨accV, q4, by rw [q5.length]; exact t3, ?_⟩
            have ry : Rep K F5 dd y := P5.st.lastEnt P5.len (by simp)
            obtain ⟨Sb, Xb⟩ := Sa.write (ds' := acc ++ [dd]) (vs' := accV ++ [y]) ix sx (q5.append ⟨y, [], rfl, ry, rfl⟩)
            have es : ((ec ++ [Ent.fz dd]) ++ ([Ent.ow (PI.D.lst acc)] ++ hidE env1 own)).set (ec ++ [Ent.fz dd]).length (.ow (.lst (acc ++ [dd]))) = (ec ++ [Ent.fz dd]) ++ ([.ow (.lst (acc ++ [dd]))] ++ hidE env1 own) := by
              rw [List.set_append_right _ _ (Nat.le_refl _)]; simp
            rw [es] at Sb Xb
            obtain ⟨Sc, Xc⟩ := comp_turn (own := own) Sb P5.len (by simp)
            rw [hw] at Sc Xc
            exact ⟨F5, ec, acc ++ [dd], by omega, l12.trans (n3.le.trans (P.ext.le.trans P5.ext.le)), by have := P5.len; have := P.len; have := S7.len; omega, Sc, (Xa.trans Xb).trans Xc, t4⟩
        · have ei : i = xs.length := by omega
          subst ei
          rw [List.drop_length] at eL
          unfold compLoop at eL
          cases eL
          obtain ⟨S5, X5⟩ := comp_end S4 le2 S1.len
          exact .inl ⟨(hJ F2 H2 _ l12 S4.le).2 (Nat.le_refl _), h F2 H2 [.ref D] ⟨by simpa using S5, by simpa using X4.trans X5, rfl⟩ ⟨by simp, _, rfl⟩ _ rfl⟩
end
section
variable {X : Cx} {XC : Str → Value → Prop} {C : Calls} {W : WX}
theorem sts_nil : PTs X [] (tTs X.K XC C W []) := pts_nil.imp' fun σ H Q h => by
  obtain ⟨F, env, S, h⟩ := h
  rw [show evTs C [] env = .ok true env from by unfold evTs; rfl] at h
  exact h F H [] (Post.nil S) trivial
theorem sts_one {c : Expr} {TA : T} (hc : PT X c (tT X.K XC C W TA)) : PTs X [c] (tTs X.K XC C W [TA]) := (pts_one hc).imp' fun σ H Q h => by
  have e : evTs C [TA] = evT C TA := by
    funext e
    simp only [evTs]
    cases evT C TA e with
    | ok b e1 => cases b <;> rfl
    | ex => rfl
    | no => rfl
  unfold tTs at h
  rw [e] at h
  exact h
theorem se_comp {elt tgE iter : Expr} {ifs : List Expr} {scope : Scope} {own : List (Str × Nat)} {pos : Pos} {tg : Tg} {ik : List D → Option (List D)} {ies : List E} {cs : List T} {A : E} (hc : X.calm = true) (hN : X.N.Nodup) (hi : PI X tgE iter (tIt X.K XC C W ik ies)) (ok : BlkOk X.N X.env.scope scope own)
    (hg : ∀ (s : Shared) (H : Hp) (Ca : Addr) (cl : List (Str × Addr)) (fp : List Addr), PG (X.blk s H scope (compEnvC scope cl Ca X.env) fp) tgE (tGt X.K [] tg)) (ht : ∀ (s : Shared) (H : Hp) (Ca : Addr) (cl : List (Str × Addr)) (fp : List Addr), PTs (X.blk s H scope (compEnvC scope cl Ca X.env) fp) ifs (tTs X.K XC C W0 cs))
    (he : ∀ (s : Shared) (H : Hp) (Ca : Addr) (cl : List (Str × Addr)) (fp : List Addr), PE (X.blk s H scope (compEnvC scope cl Ca X.env) fp) elt (tE X.K XC C W0 A)) (ho : ∀ i ∈ tg.slots, i ∈ own.map (·.2)) (hs : ∀ x, foldedSetIterable iter X.env x = pure x := by intro _; rfl) :
    PE X (.ListComp elt [⟨tgE, iter, ifs, 0⟩] scope pos) (tE X.K XC C W (.comp (own.map (·.2)) tg ik ies cs A)) :=
  (pe_lc hc hN hi ok hg ht (fun s H Ca cl fp => se_f (he s H Ca cl fp)) hs).imp' fun _ _ _ h => t_lc h ho
end
end PI

end

section
set_option maxRecDepth 100000
set_option maxHeartbeats 1000000
/-! Pi13: statements. -/
namespace PI
open PySem PySem.Spec PyProof.Rows L2
section
variable (K : PySem.W.Frag) (XC : Str → Value → Prop) (C : Calls) (W : WX) (pw : List Nat)
def SamePw (σ σ' : L2.St) : Prop := ∀ i ∈ pw, σ'[i]? = σ[i]?
def srP (D : Ends) (F : Hp) (env : En) (σ : L2.St) (H : Hp) : SR → Prop
  | .nx e => ∀ F' H' σ', St K F' e σ' H' → Ext F env σ H F' e σ' H' → SamePw pw σ σ' → D.nx σ' H'
  | .bk e => ∀ F' H' σ', St K F' e σ' H' → Ext F env σ H F' e σ' H' → SamePw pw σ σ' → D.bk σ' H'
  | .ct e => ∀ F' H' σ', St K F' e σ' H' → Ext F env σ H F' e σ' H' → SamePw pw σ σ' → D.ct σ' H'
  | .rt r e => r ≠ .un → ∀ F' H' σ' v, St K F' (e ++ [r]) (σ' ++ [some v]) H' → Ext F env σ H F' (e ++ [r]) (σ' ++ [some v]) H' → e.length = σ'.length → SamePw pw σ σ' → D.rt v H'
  | .ex c ps e => ∀ F' H' σ' cls dx, St K F' e σ' H' → Ext F env σ H F' e σ' H' → SamePw pw σ σ' → ExOk K XC F' H' c ps cls dx → W cls dx σ' H'
  | .no => False
def tS (s : S) : TS := fun D σ H => ∃ F env, St K F env σ H ∧ srP K XC W pw D F env σ H (exec C pw s env)
def tSs (ss : List S) : TS := fun D σ H => ∃ F env, St K F env σ H ∧ srP K XC W pw D F env σ H (execs C pw ss env)
end
section
variable {X : Cx} {XC : Str → Value → Prop} {C : Calls} {W : WX} {pw : List Nat} {K : PySem.W.Frag}
theorem _root_.L2.PS.imp' {st : Stmt} {t t' : TS} (h : PS X st t) (i : ∀ D σ H, t' D σ H → t D σ H) : PS X st t' := ⟨fun pins s σ H D I q => h.run pins s σ H D I (i _ _ _ q)⟩
theorem _root_.L2.PSs.imp' {st : List Stmt} {t t' : TS} (h : PSs X st t) (i : ∀ D σ H, t' D σ H → t D σ H) : PSs X st t' := ⟨fun pins s σ H D I q => h.run pins s σ H D I (i _ _ _ q)⟩
theorem SamePw.refl {σ : L2.St} : SamePw pw σ σ := fun _ _ => rfl
theorem SamePw.trans {a b c : L2.St} (h : SamePw pw a b) (k : SamePw pw b c) : SamePw pw a c := fun i hi => (k i hi).trans (h i hi)
/-- the rest of a run, from a later state -/
theorem srP.behind {D : Ends} {F F1 : Hp} {env env1 : En} {σ σ1 : L2.St} {H H1 : Hp} {r : SR} (x : Ext F env σ H F1 env1 σ1 H1) (p : SamePw pw σ σ1) (h : srP K XC W pw D F env σ H r) : srP K XC W pw D F1 env1 σ1 H1 r := by
  cases r with
  | nx e => exact fun F' H' σ' S y q => h F' H' σ' S (x.trans y) (p.trans q)
  | bk e => exact fun F' H' σ' S y q => h F' H' σ' S (x.trans y) (p.trans q)
  | ct e => exact fun F' H' σ' S y q => h F' H' σ' S (x.trans y) (p.trans q)
  | rt r e => exact fun hr F' H' σ' v S y l q => h hr F' H' σ' v S (x.trans y) l (p.trans q)
  | ex c ps e => exact fun F' H' σ' cls dx S y q z => h F' H' σ' cls dx S (x.trans y) (p.trans q) z
  | no => exact h
/-- an evaluation, then the rest -/
theorem tM_sr {α : Type} {m : En → Res α} {f : α → En → SR} {pe : α → En} {ok : α → L2.St → List V → Prop} {D : Ends} {σ : L2.St} {H : Hp} {Q1 : α → List V → Hp → Prop} {F : Hp} {env : En} (S : St K F env σ H) (h : srP K XC W pw D F env σ H ((m env).sr f))
    (g : ∀ (F1 : Hp) (env1 : En) (x : α) (vs : List V) (H1 : Hp), m env = .ok x env1 → Post K F env σ H F1 env1 (pe x) vs H1 → ok x σ vs → srP K XC W pw D F env σ H (f x env1) → Q1 x vs H1) : tM K XC W m pe ok σ H Q1 := by
  refine ⟨F, env, S, ?_⟩
  cases e : m env with
  | ok x env1 =>
    rw [e] at h
    exact fun F1 H1 vs P o => g F1 env1 x vs H1 e P o h
  | ex c ps env1 =>
    rw [e] at h
    exact fun F' H' cls dx S' x z => h F' H' σ cls dx S' x SamePw.refl z
  | no => rw [e] at h; exact h
/-! ### blocks -/
theorem ss_nil : PSs X [] (tSs X.K XC C W pw []) := pss_nil.imp' fun D σ H h => by
  obtain ⟨F, env, S, h⟩ := h
  rw [show execs C pw [] env = .nx env from by unfold execs; rfl] at h
  exact h F H σ S Ext.refl SamePw.refl
theorem ss_cons {st : Stmt} {rest : List Stmt} {s : S} {ss : List S} (h1 : PS X st (tS X.K XC C W pw s)) (h2 : PSs X rest (tSs X.K XC C W pw ss)) : PSs X (st :: rest) (tSs X.K XC C W pw (s :: ss)) := (pss_cons h1 h2).imp' fun D σ H h => by
  obtain ⟨F, env, S, h⟩ := h
  refine ⟨F, env, S, ?_⟩
  unfold execs at h
  cases e : exec C pw s env with
  | nx e1 =>
    rw [e] at h
    exact fun F' H' σ' S' x p => ⟨F', e1, S', h.behind x p⟩
  | bk e1 => rw [e] at h; exact h
  | ct e1 => rw [e] at h; exact h
  | rt r e1 => rw [e] at h; exact h
  | ex c ps e1 => rw [e] at h; exact h
  | no => rw [e] at h; exact h
/-! ### small statements -/
theorem ss_pass {pos : Pos} : PS X (.Pass pos) (tS X.K XC C W pw .pass) := ps_pass.imp' fun D σ H h => by
  obtain ⟨F, env, S, h⟩ := h
  rw [exec] at h
  exact h F H σ S Ext.refl SamePw.refl
theorem ss_brk {pos : Pos} : PS X (.Break pos) (tS X.K XC C W pw .brk) := ps_break.imp' fun D σ H h => by
  obtain ⟨F, env, S, h⟩ := h
  rw [exec] at h
  exact h F H σ S Ext.refl SamePw.refl
theorem ss_cont {pos : Pos} : PS X (.Continue pos) (tS X.K XC C W pw .cont) := ps_continue.imp' fun D σ H h => by
  obtain ⟨F, env, S, h⟩ := h
  rw [exec] at h
  exact h F H σ S Ext.refl SamePw.refl
theorem ss_retN {pos : Pos} : PS X (.Return none pos) (tS X.K XC C W pw .retN) := ps_retN.imp' fun D σ H h => by
  obtain ⟨F, env, S, h⟩ := h
  rw [exec] at h
  obtain ⟨S1, x1⟩ := S.new (new_scal (d := .non) (v := .non) S.le (by unfold Rep; rfl))
  exact h (by simp) F H σ .non S1 x1 S.len SamePw.refl
variable {e a b c : Expr} {A B : E} {pos : Pos}
theorem ss_expr (he : PE X e (tE X.K XC C W A)) (hs : swapsWith e none pos.line X.env = pure false := by rfl) : PS X (.Expr e pos) (tS X.K XC C W pw (.expr A)) := (ps_expr he hs).imp' fun D σ H h => by
  obtain ⟨F, env, S, h⟩ := h
  rw [exec] at h
  refine tM_sr S h fun F1 env1 x vs H1 em P o g v ev_ => ?_
  exact g F1 H1 σ P.base P.bext SamePw.refl
theorem ss_ret (he : PE X e (tE X.K XC C W A)) (hA : isVar A = none := by rfl) : PS X (.Return (some e) pos) (tS X.K XC C W pw (.ret A)) := (ps_ret he).imp' fun D σ H h => by
  obtain ⟨F, env, S, h⟩ := h
  rw [exec, hA] at h
  refine tM_sr S h fun F1 env1 x vs H1 em P o g v ev_ => ?_
  obtain ⟨hr, v', rfl⟩ := o
  cases ev_
  exact g hr F1 H1 σ v P.st P.ext P.len SamePw.refl
theorem ss_retV {i : Nat} (he : PE X e (tVar i)) : PS X (.Return (some e) pos) (tS X.K XC C W pw (.ret (.var i))) := (ps_ret he).imp' fun D σ H h => by
  obtain ⟨F, env, S, h⟩ := h
  rw [exec, show isVar (.var i) = some i from rfl] at h
  dsimp only at h
  cases q : env[i]? with
  | none => rw [q] at h; exact h.elim
  | some r =>
    cases r with
    | un => rw [q] at h; exact h.elim
    | fz d =>
      rw [q] at h
      obtain ⟨v, h1, h2⟩ := S.ent i _ q (by simp)
      obtain ⟨S1, x1⟩ := S.new (new_scal S.le h2)
      exact ⟨v, h1, h (by simp) F H σ v S1 x1 S.len SamePw.refl⟩
    | ow d =>
      rw [q] at h
      obtain ⟨v, h1, h2⟩ := S.ent i _ q (by simp)
      have hi : i < env.length := (List.getElem?_eq_some_iff.mp q).1
      obtain ⟨S1, x1⟩ := S.rel (env' := env.set i .un ++ [.ow d]) (σ' := σ ++ [some v]) (fun j k => (j < env.length ∧ j ≠ i ∧ k = j) ∨ (j = env.length ∧ k = i)) (by simp [S.len]) (by
        rintro j k l (⟨z1, z2, z3⟩ | ⟨z1, z2⟩) (⟨y1, y2, y3⟩ | ⟨y1, y2⟩) <;> omega) (fun j r er hr => by
        rcases getElem?_app1 er with er | ⟨hj, rfl⟩
        · rcases getElem?_set_cases er with ⟨_, z, _⟩ | ⟨ne, er⟩
          · exact (hr z).elim
          · have hj := (List.getElem?_eq_some_iff.mp er).1
            refine ⟨j, .inl ⟨hj, ne, rfl⟩, er, fun v' e' => ?_⟩
            rw [List.getElem?_append_left (by rw [← S.len]; exact hj)]; exact e'
        · rw [List.length_set] at hj
          subst hj
          refine ⟨i, .inr ⟨rfl, rfl⟩, q, fun v' e' => ?_⟩
          rw [h1] at e'; cases e'
          rw [S.len]; simp)
      exact ⟨v, h1, h (by simp) F H σ v S1 x1 (by simp [S.len]) SamePw.refl⟩
theorem set_pw {σ : L2.St} {i : Nat} {v : Option V} (h : i ∉ pw) : SamePw pw σ (σ.set i v) := fun j hj => by
  rw [List.getElem?_set_ne]; rintro rfl; exact h hj
theorem t_set {te : TE} {i : Nat} {D : Ends} {σ : L2.St} {H : Hp} (h : tS K XC C W pw (.set i A) D σ H) (ht : ∀ Q, tE K XC C W A σ H Q → te σ H Q) : tAsg te (gName i) D σ H := by
  obtain ⟨F, env, S, h⟩ := h
  rw [exec] at h
  refine ht _ ?_
  refine tM_sr S h fun F1 env1 x vs H1 em P o g v ev_ => ?_
  obtain ⟨hr, v', rfl⟩ := o
  cases ev_
  try dsimp only at g
  split at g
  · exact g.elim
  · rename_i hp
    obtain ⟨S2, x2⟩ := St.store P.len P.st i
    exact g F1 H1 _ S2 (P.ext.trans x2) (set_pw hp)
theorem ss_set {i : Nat} {x : Str} {pos' : Pos} (hN : X.N.Nodup) (hi : X.N[i]? = some x) (hx : Loc X.env.scope x) (he : PE X e (tE X.K XC C W A)) (hs : swapsWith e (some (.Name x pos')) pos.line X.env = pure false := by rfl) (hf : X.fn x = true ∨ X.env.scope.names.lookup x = some .local := by first | exact .inl rfl | exact .inr rfl | assumption) : PS X (.Assign [.Name x pos'] e pos) (tS X.K XC C W pw (.set i A)) := (ps_set hN hi hx he hs hf).imp' fun D σ H h => t_set h fun _ q => q
theorem ss_if {p q : List Stmt} {TA : T} {P Q : List S} (hc : PT X c (tT X.K XC C W TA)) (ha : PSs X p (tSs X.K XC C W pw P)) (hb : PSs X q (tSs X.K XC C W pw Q)) : PS X (.If c p q pos) (tS X.K XC C W pw (.ite TA P Q)) := (ps_if hc ha hb).imp' fun D σ H h => by
  obtain ⟨F, env, S, h⟩ := h
  rw [exec] at h
  change tM X.K XC W (evT C TA) (fun _ => []) (fun _ _ _ => True) σ H (fun b _ H1 => _)
  refine tM_sr S h fun F1 env1 t vs H1 em P o g => ?_
  try dsimp only at g
  cases t with
  | true => exact ⟨F1, env1, P.base, srP.behind P.bext SamePw.refl g⟩
  | false => exact ⟨F1, env1, P.base, srP.behind P.bext SamePw.refl g⟩
/-- ts = e -/
theorem ss_unp {tg : Expr} {ts : List Tg} (he : PE X e (tE X.K XC C W A)) (hg : PG X tg (tGt X.K pw (.tp ts))) (hs : swapsWithSole [tg] e pos.line X.env = pure false := by rfl) (hw : swappedStores [tg] e X.env = pure none := by rfl)
    (h1 : (assignEach [tg] X.env).map (·.2) = [assign tg X.env] := by rfl) : PS X (.Assign [tg] e pos) (tS X.K XC C W pw (.unp ts A)) := (ps_asg (se_f he) hg hs hw h1).imp' fun D σ H h => by
  obtain ⟨F, env, S, h⟩ := h
  rw [exec] at h
  change tM X.K XC W (frozen (ev C A)) (fun d => [Ent.fz d]) (fun _ _ vs => ∃ v, vs = [v]) σ H (one _)
  refine tM_sr S h fun F1 env1 d vs H1 em P o g v ev_ => ?_
  obtain ⟨v', rfl⟩ := o
  cases ev_
  try dsimp only at g
  cases q : Tg.asg pw (.tp ts) d env1 with
  | none => rw [q] at g; exact g.elim
  | some e' =>
    rw [q] at g
    exact ⟨F1, env1, d, e', P.base, P.st.lastEnt P.len (by simp), q, fun σ' S' x l o p => g F1 H1 σ' S' (P.bext.trans x) p⟩
/-- a, b = x, y -/
theorem ss_par {i j : Nat} {x y : Str} {px py pt : Pos} {kt k2 : Nat} {pt2 : Pos} {D0 : Prop} (h : ∀ ta, PA X [a, b] ta → PS X (.Assign [.Tuple [.Name x px, .Name y py] kt pt] (.Tuple [a, b] k2 pt2) pos) (tPar i j ta)) (ha : PE X a (tE X.K XC C W A)) (hb : PE X b (tE X.K XC C W B)) (hs : starEach [a, b] X.env = (false, eval a X.env) :: starEach [b] X.env := by rfl) (hs2 : starEach [b] X.env = (false, eval b X.env) :: starEach [] X.env := by rfl) : PS X (.Assign [.Tuple [.Name x px, .Name y py] kt pt] (.Tuple [a, b] k2 pt2) pos) (tS X.K XC C W pw (.par i j A B)) :=
  (h _ (pa_cons ha (pa_cons hb pa_nil hs2) hs)).imp' fun D σ H h => by
    obtain ⟨F, env, S, h⟩ := h
    rw [exec] at h
    refine tM_sr S h fun F1 env1 r vs H1 em P o g v ev_ => ?_
    obtain ⟨hr, v', rfl⟩ := o
    cases ev_
    refine ⟨F1, env1, P.base, ?_⟩
    cases e2 : ev C B env1 with
    | no => rw [e2] at g; exact g
    | ex c ps env2 =>
      rw [e2] at g
      exact fun F' H' cls dx S' x z => g F' H' σ cls dx S' (P.bext.trans x) SamePw.refl z
    | ok u env2 =>
    rw [e2] at g
    intro F2 H2 ws P2 o2 w ew
    obtain ⟨hu, w', rfl⟩ := o2
    cases ew
    have g2 : srP X.K XC W pw D F env σ H (if i ∈ pw ∨ j ∈ pw then SR.no else SR.nx ((env2.set i r).set j u)) := g
    refine ⟨v, w, rfl, ?_⟩
    split at g2
    · exact g2.elim
    · rename_i hp
      simp only [not_or] at hp
      have PP := P.seq P2
      obtain ⟨S3, X3⟩ := PP.st.rel (env' := (env2.set i r).set j u) (σ' := (σ.set i (some v)).set j (some w)) (fun k l => (k < env2.length ∧ k ≠ i ∧ k ≠ j ∧ l = k) ∨ (k = i ∧ i ≠ j ∧ l = env2.length) ∨ (k = j ∧ l = env2.length + 1)) (by simp [P2.len]) (by
        rintro k l m (⟨z1, z2, z3, z4⟩ | ⟨z1, z2, z3⟩ | ⟨z1, z2⟩) (⟨y1, y2, y3, y4⟩ | ⟨y1, y2, y3⟩ | ⟨y1, y2⟩) <;> omega) (fun k q er hq => by
        rcases getElem?_set_cases er with ⟨rfl, rfl, hk⟩ | ⟨ne, er⟩
        · refine ⟨env2.length + 1, .inr (.inr ⟨rfl, rfl⟩), by simp, fun v' e' => ?_⟩
          rw [P2.len] at e'; simp at e'; subst e'
          rw [List.getElem?_set_self (by simpa [P2.len] using hk)]
        · rcases getElem?_set_cases er with ⟨rfl, rfl, hk⟩ | ⟨ne2, er⟩
          · refine ⟨env2.length, .inr (.inl ⟨rfl, ne, rfl⟩), by simp, fun v' e' => ?_⟩
            rw [P2.len] at e'; simp at e'; subst e'
            rw [List.getElem?_set_ne (Ne.symm ne), List.getElem?_set_self (by simpa [P2.len] using hk)]
          · have hk := (List.getElem?_eq_some_iff.mp er).1
            refine ⟨k, .inl ⟨hk, ne2, ne, rfl⟩, by rw [List.getElem?_append_left hk]; exact er, fun v' e' => ?_⟩
            rw [List.getElem?_append_left (by rw [← P2.len]; exact hk)] at e'
            rw [List.getElem?_set_ne (Ne.symm ne), List.getElem?_set_ne (Ne.symm ne2)]; exact e')
      exact g2 F2 H2 _ S3 (PP.ext.trans X3) ((set_pw hp.1).trans (set_pw hp.2))
end
end PI

end

section
set_option maxRecDepth 100000
set_option maxHeartbeats 1000000
/-! Pi14: lists changed, loops. -/
namespace PI
open PySem PySem.Spec PyProof.Rows L2
theorem ownL_some {e : En} {i : Nat} {ds : List D} (h : ownL e i = some ds) : e[i]? = some (.ow (.lst ds)) := by
  unfold ownL at h
  split at h
  · rename_i q; cases h; exact q
  · cases h
section
variable {X : Cx} {XC : Str → Value → Prop} {C : Calls} {W : WX} {pw : List Nat} {K : PySem.W.Frag}
variable {e a b c : Expr} {A B : E} {pos cpos apos : Pos} {xe : Expr}
/-- where one's own list stands -/
theorem St.ownAt {F H : Hp} {env : En} {σ : L2.St} (S : St K F env σ H) {i : Nat} {ds : List D} (e : env[i]? = some (.ow (.lst ds))) : ∃ p vs, σ[i]? = some (some (.ref p)) ∧ H p = some (.lst vs) ∧ RepAll K F ds vs := by
  obtain ⟨v, h1, a, rfl, _, vs, h2, h3⟩ := S.ent i _ e (by simp)
  exact ⟨a, vs, h1, h2, h3⟩
theorem St.writeAt {F H : Hp} {env : En} {σ : L2.St} (S : St K F env σ H) {i : Nat} {ds ds' : List D} {vs' : List V} {p : Addr} (e : env[i]? = some (.ow (.lst ds))) (h : σ[i]? = some (some (.ref p))) (r : RepAll K F ds' vs') :
    St K F (env.set i (.ow (.lst ds'))) σ (upd H p (.lst vs')) ∧ Ext F env σ H F (env.set i (.ow (.lst ds'))) σ (upd H p (.lst vs')) := S.write e h r
theorem sr_opt {f : Option En} {D : Ends} {F : Hp} {env : En} {σ : L2.St} {H : Hp} (h : srP K XC W pw D F env σ H (SR.opt f)) : ∃ e, f = some e ∧ srP K XC W pw D F env σ H (.nx e) := by
  cases f with
  | none => exact h.elim
  | some e => exact ⟨e, rfl, h⟩
/-- x.append(e) -/
theorem ss_app {i : Nat} (hx : PE X xe (tVar i)) (he : PE X e (tE X.K XC C W A))
    (pr : ∀ {tx : TE} {t : TA}, PE X xe tx → PA X [e] t → PS X (.Expr (.Call (.Attribute xe "append" apos) [e] [] cpos) pos) (tDrop (tBM X.K "list" rAppend tx t))) (hs : starEach [e] X.env = (false, eval e X.env) :: starEach [] X.env := by rfl) :
    PS X (.Expr (.Call (.Attribute xe "append" apos) [e] [] cpos) pos) (tS X.K XC C W pw (.app i A)) := (pr hx (pa_cons (se_f he) pa_nil hs)).imp' fun D σ H h => by
  obtain ⟨F, env, S, h⟩ := h
  rw [exec] at h
  cases q : ownL env i with
  | none => rw [q] at h; exact h.elim
  | some ds0 =>
    rw [q] at h
    obtain ⟨p, vs0, h1, h2, _⟩ := S.ownAt (ownL_some q)
    refine ⟨.ref p, h1, .inl ⟨rfl, vs0, SqL.of h2⟩, ?_⟩
    change tM X.K XC W (frozen (ev C A)) (fun d => [Ent.fz d]) (fun _ _ vs => ∃ v, vs = [v]) σ H (one _)
    refine tM_sr S h fun F1 env1 d vs H1 em P o g v ev_ => ?_
    obtain ⟨v', rfl⟩ := o
    cases ev_
    obtain ⟨e', q2, g⟩ := sr_opt g
    unfold appL at q2
    cases q3 : ownL env1 i with
    | none => rw [q3] at q2; cases q2
    | some ds =>
      rw [q3] at q2
      dsimp only at q2
      split at q2
      · rename_i hz
        cases q2
        obtain ⟨p', vs1, h3, h4, h5⟩ := P.base.ownAt (ownL_some q3)
        rw [h1] at h3; cases h3
        have rd : Rep X.K F1 d v := P.st.lastEnt P.len (by simp)
        obtain ⟨S2, x2⟩ := P.base.writeAt (ownL_some q3) h1 (h5.append (RepAll.cons rd RepAll.nil))
        exact ⟨p, vs1, v, rfl, rfl, h4, by rw [h5.length]; exact hz, g F1 _ σ S2 (P.bext.trans x2) SamePw.refl⟩
      · cases q2
/-- x.extend(e) -/
theorem ss_ext {i : Nat} (hx : PE X xe (tVar i)) (he : PE X e (tE X.K XC C W A))
    (pr : ∀ {tx : TE} {t : TA}, PE X xe tx → PA X [e] t → PS X (.Expr (.Call (.Attribute xe "extend" apos) [e] [] cpos) pos) (tDrop (tBM X.K "list" rExtend tx t))) (hs : starEach [e] X.env = (false, eval e X.env) :: starEach [] X.env := by rfl) :
    PS X (.Expr (.Call (.Attribute xe "extend" apos) [e] [] cpos) pos) (tS X.K XC C W pw (.ext i A)) := (pr hx (pa_cons (se_f he) pa_nil hs)).imp' fun D σ H h => by
  obtain ⟨F, env, S, h⟩ := h
  rw [exec] at h
  cases q : ownL env i with
  | none => rw [q] at h; exact h.elim
  | some ds0 =>
    rw [q] at h
    obtain ⟨p, vs0, h1, h2, _⟩ := S.ownAt (ownL_some q)
    refine ⟨.ref p, h1, .inl ⟨rfl, vs0, SqL.of h2⟩, ?_⟩
    change tM X.K XC W (frozen (ev C A)) (fun d => [Ent.fz d]) (fun _ _ vs => ∃ v, vs = [v]) σ H (one _)
    refine tM_sr S h fun F1 env1 d vs H1 em P o g v ev_ => ?_
    obtain ⟨v', rfl⟩ := o
    cases ev_
    obtain ⟨e', q2, g⟩ := sr_opt g
    unfold extL at q2
    cases q3 : ownL env1 i with
    | none => rw [q3] at q2; cases q2
    | some ds =>
      rw [q3] at q2
      cases d with
      | lst ys =>
        dsimp only at q2
        split at q2
        · rename_i hz
          cases q2
          obtain ⟨p', vs1, h3, h4, h5⟩ := P.base.ownAt (ownL_some q3)
          rw [h1] at h3; cases h3
          have rd : Rep X.K F1 (.lst ys) v := P.st.lastEnt P.len (by simp)
          obtain ⟨a, ws, rfl, h6, h7⟩ := rd
          obtain ⟨S2, x2⟩ := P.base.writeAt (ownL_some q3) h1 (h5.append h7)
          exact ⟨p, a, vs1, ws, rfl, rfl, h4, P.base.le _ _ h6, by rw [h5.length, h7.length]; exact hz, g F1 _ σ S2 (P.bext.trans x2) SamePw.refl⟩
        · cases q2
      | _ => cases q2
/-- x[ix] = e -/
theorem ss_sti {i : Nat} {ix : Expr} {I : E} {tpos : Pos} (hx : PE X xe (tVar i)) (hi : PE X ix (tE X.K XC C W I)) (he : PE X e (tE X.K XC C W A))
    (pr : ∀ {te : TE} {g : TG}, PE X e te → PG X (.Subscript xe ix tpos) g → PS X (.Assign [.Subscript xe ix tpos] e pos) (tAsg te g))
    (pg : ∀ {to ti : TE}, PE X xe to → PE X ix ti → PG X (.Subscript xe ix tpos) (gSub to ti rSetL)) :
    PS X (.Assign [.Subscript xe ix tpos] e pos) (tS X.K XC C W pw (.sti i I A)) := (pr (se_f he) (pg hx hi)).imp' fun D σ H h => by
  obtain ⟨F, env, S, h⟩ := h
  rw [exec] at h
  change tM X.K XC W (frozen (ev C A)) (fun d => [Ent.fz d]) (fun _ _ vs => ∃ v, vs = [v]) σ H (one _)
  refine tM_sr S h fun F1 env1 d vs H1 em P o g v ev_ => ?_
  obtain ⟨v', rfl⟩ := o
  cases ev_
  cases q : ownL env1 i with
  | none => rw [q] at g; exact g.elim
  | some ds0 =>
    rw [q] at g
    obtain ⟨p, vs0, h1, h2, _⟩ := P.base.ownAt (ownL_some q)
    refine ⟨.ref p, h1, ?_⟩
    refine ⟨F1, env1, P.base, ?_⟩
    cases e2 : ev C I env1 with
    | no => rw [e2] at g; exact g
    | ex c ps env2 =>
      rw [e2] at g
      exact fun F' H' cls dx S' x z => g F' H' σ cls dx S' (P.bext.trans x) SamePw.refl z
    | ok r env2 =>
    rw [e2] at g
    intro F2 H2 ws P2 o2 w ew
    obtain ⟨hu, w', rfl⟩ := o2
    cases ew
    obtain ⟨e', q2, g⟩ := sr_opt g
    unfold stiL at q2
    cases q3 : ownL env2 i with
    | none => rw [q3] at q2; cases q2
    | some ds =>
      rw [q3] at q2
      split at q2
      · rename_i ds' k ed
        cases ed
        split at q2
        · rename_i j hj
          cases q2
          obtain ⟨p', vs1, h3, h4, h5⟩ := P2.base.ownAt (ownL_some q3)
          rw [h1] at h3; cases h3
          have PP := P.seq P2
          have rk : Rep X.K F2 (.int k) w := P2.st.lastEnt P2.len (by simp)
          have rd : Rep X.K F2 d v := Rep.mono P2.ext.le _ _ (P.st.lastEnt P.len (by simp))
          obtain ⟨S2, x2⟩ := P2.base.writeAt (ownL_some q3) h1 (RepAll.set rd j h5)
          exact ⟨p, vs1, k, j, rfl, rk, h4, by rw [h5.length]; exact hj, g F2 _ σ S2 (PP.bext.trans x2) SamePw.refl⟩
        · cases q2
      · cases q2
/-! ### loops -/
theorem srP_turn {D D' : Ends} {F F2 : Hp} {env e2 : En} {σ σ2 : L2.St} {H H2 : Hp} {r : SR} {k : En → SR} {N : L2.St → Hp → Prop} (hD : D' = { D with nx := N, ct := N, bk := D.nx }) (X : Ext F env σ H F2 e2 σ2 H2) (p : SamePw pw σ σ2) (h : srP K XC W pw D F env σ H (turn r k))
    (hN : ∀ e F' H' σ', St K F' e σ' H' → Ext F2 e2 σ2 H2 F' e σ' H' → SamePw pw σ2 σ' → srP K XC W pw D F env σ H (k e) → N σ' H') : srP K XC W pw D' F2 e2 σ2 H2 r := by
  subst hD
  cases r with
  | nx e => exact fun F' H' σ' S x p => hN e F' H' σ' S x p h
  | ct e => exact fun F' H' σ' S x p => hN e F' H' σ' S x p h
  | bk e => exact fun F' H' σ' S y q => h F' H' σ' S (X.trans y) (p.trans q)
  | rt r e => exact fun hr F' H' σ' v S y l q => h hr F' H' σ' v S (X.trans y) l (p.trans q)
  | ex c ps e => exact fun F' H' σ' cls dx S y q z => h F' H' σ' cls dx S (X.trans y) (p.trans q) z
  | no => exact h
theorem ss_for {tgE iter : Expr} {body : List Stmt} {tg : Tg} {ik : List D → Option (List D)} {ies : List E} {bs : List S} (hp : PassesOwn (model X.prog X.w) X.A X.env X.xe) (hc : X.calm = true) (hi : PI X tgE iter (tIt X.K XC C W ik ies)) (hg : PG X tgE (tGt X.K pw tg)) (hb : PSs X body (tSs X.K XC C W pw bs))
    (hs : ∀ x, foldedSetIterable iter X.env x = pure x := by intro _; rfl) : PS X (.For tgE iter body [] pos) (tS X.K XC C W pw (.for_ tg ik ies bs)) := (ps_for hp hc hi hg hb hs).imp' fun D σ H h => by
  obtain ⟨F, env, S, h⟩ := h
  rw [exec] at h
  refine ⟨F, env, S, ?_⟩
  cases e1 : evs C ies env with
  | no => rw [e1] at h; exact h
  | ex c ps env1 =>
    rw [e1] at h
    exact fun F' H' cls dx S' x z => h F' H' σ cls dx S' x SamePw.refl z
  | ok ds env1 =>
    rw [e1] at h
    replace h : srP X.K XC W pw D F env σ H (match ik ds with | none => .no | some xs => forLoop pw tg (execs C pw bs) xs env1) := h
    cases e2 : ik ds with
    | none => rw [e2] at h; exact h.elim
    | some xs =>
      rw [e2] at h
      dsimp only at h
      refine ⟨xs, e2, fun F0 H0 J S0 X0 hJ => ?_⟩
      refine ⟨fun i m σ1 H1 => m = xs.length - i ∧ i ≤ xs.length ∧ ∃ F1 e1, FLe F0 F1 ∧ St X.K F1 e1 σ1 H1 ∧ Ext F env σ H F1 e1 σ1 H1 ∧ SamePw pw σ σ1 ∧ srP X.K XC W pw D F env σ H (forLoop pw tg (execs C pw bs) (xs.drop i) e1),
        ⟨xs.length, rfl, Nat.zero_le _, F0, env1, FLe.refl, S0, X0, SamePw.refl, h⟩, ?_⟩
      rintro i m σ1 H1 ⟨rfl, hi', F1, e1, l1, S1, X1, p1, g⟩
      by_cases hlt : i < xs.length
      · obtain ⟨d, hd⟩ : ∃ d, xs[i]? = some d := ⟨xs[i], by simp [hlt]⟩
        have dr : xs.drop i = d :: xs.drop (i + 1) := by
          rw [List.drop_eq_getElem_cons hlt]
          rw [List.getElem?_eq_getElem hlt] at hd
          cases hd; rfl
        rw [dr] at g
        unfold forLoop at g
        obtain ⟨go, yl⟩ := (hJ F1 H1 i l1 S1.le).1 d hd
        refine .inr ⟨go, fun σ' H' => (fun m => i + 1 ≤ xs.length ∧ ∃ F1 e1, FLe F0 F1 ∧ St X.K F1 e1 σ' H' ∧ Ext F env σ H F1 e1 σ' H' ∧ SamePw pw σ σ' ∧ srP X.K XC W pw D F env σ H (forLoop pw tg (execs C pw bs) (xs.drop (i + 1)) e1)) 0,
          fun σ' H' n => ⟨xs.length - (i + 1), by omega, rfl, n⟩, fun x H2 y => ?_⟩
        obtain ⟨F2, n2⟩ := yl x H2 y
        obtain ⟨S2, X2⟩ := S1.new n2
        have S3 : St X.K F2 e1 σ1 H2 := S2.left S1.len
        have X3 := (X1.trans X2).trans (Ext.left S1.len)
        cases q : Tg.asg pw tg d e1 with
        | none => rw [q] at g; exact g.elim
        | some e2 =>
          rw [q] at g
          refine ⟨F2, e1, d, e2, S3, n2.ent, q, fun σ2 S4 X4 _ _ p4 => ?_⟩
          refine ⟨F2, e2, S4, ?_⟩
          have X5 := X3.trans X4
          have p5 := p1.trans p4
          refine srP_turn rfl X5 p5 g fun e3 F' H' σ' S' x' p' k => ?_
          exact ⟨by omega, F', e3, l1.trans (n2.le.trans (X4.le.trans x'.le)), S', X5.trans x', p5.trans p', k⟩
      · have ei : i = xs.length := by omega
        subst ei
        rw [List.drop_length] at g
        unfold forLoop at g
        exact .inl ⟨(hJ F1 H1 _ l1 S1.le).2 (Nat.le_refl _), g F1 H1 σ1 S1 X1 p1⟩
theorem ss_while {c : Expr} {body : List Stmt} {TA : T} {bs : List S} (hp : PassesOwn (model X.prog X.w) X.A X.env X.xe) (hc : PT X c (tT X.K XC C W TA)) (hb : PSs X body (tSs X.K XC C W pw bs)) : PS X (.While c body [] pos) (tS X.K XC C W pw (.whl TA bs)) := (ps_while hp hc hb).imp' fun D σ H h => by
  obtain ⟨F, env, S, h⟩ := h
  rw [exec] at h
  refine ⟨fun m σ1 H1 => ∃ F1 e1, St X.K F1 e1 σ1 H1 ∧ Ext F env σ H F1 e1 σ1 H1 ∧ SamePw pw σ σ1 ∧ srP X.K XC W pw D F env σ H (whlLoop (evT C TA) (execs C pw bs) m e1), ⟨whlFuel, F, env, S, Ext.refl, SamePw.refl, h⟩, ?_⟩
  rintro m σ1 H1 ⟨F1, e1, S1, X1, p1, g⟩
  cases m with
  | zero => unfold whlLoop at g; exact g.elim
  | succ m =>
    unfold whlLoop at g
    refine ⟨F1, e1, S1, ?_⟩
    cases q : evT C TA e1 with
    | no => rw [q] at g; exact g
    | ex c ps e2 =>
      rw [q] at g
      exact fun F' H' cls dx S' x z => g F' H' σ1 cls dx S' (X1.trans x) p1 z
    | ok b e2 =>
      rw [q] at g
      intro F2 H2 vs P _
      dsimp only
      cases b with
      | false =>
        rw [if_neg (by decide)]
        exact g F2 H2 σ1 P.base (X1.trans P.bext) p1
      | true =>
        rw [if_pos rfl]
        replace g : srP X.K XC W pw D F env σ H (turn (execs C pw bs e2) (whlLoop (evT C TA) (execs C pw bs) m)) := g
        refine ⟨fun σ' H' => ∃ F1 e1, St X.K F1 e1 σ' H' ∧ Ext F env σ H F1 e1 σ' H' ∧ SamePw pw σ σ' ∧ srP X.K XC W pw D F env σ H (whlLoop (evT C TA) (execs C pw bs) m e1), fun σ' H' n => ⟨m, Nat.lt_succ_self _, n⟩, F2, e2, P.base, ?_⟩
        refine srP_turn rfl (X1.trans P.bext) p1 g fun e3 F' H' σ' S' x' p' k => ?_
        exact ⟨F', e3, S', (X1.trans P.bext).trans x', p1.trans p', k⟩
/-- x = [.. for ..] on one line -/
theorem ss_setC {i : Nat} {y : Str} {py : Pos} {elt tgE iter : Expr} {ifs : List Expr} {scope : Scope} {own : List (Str × Nat)} {spos : Pos} {tg : Tg} {ik : List D → Option (List D)} {ies : List E} {cs : List T} (hc : X.calm = true) (hN : X.N.Nodup) (hy : X.N[i]? = some y) (hyl : X.env.scope.names.lookup y = some .local)
    (hsw : swapsWith (.ListComp elt [⟨tgE, iter, ifs, 0⟩] scope pos) (some (.Name y py)) spos.line X.env = pure true) (hi : PI X tgE iter (tIt X.K XC C W ik ies)) (ok : BlkOk X.N X.env.scope scope own)
    (hg : ∀ (s : Shared) (H : Hp) (Ca : Addr) (cl : List (Str × Addr)) (fp : List Addr), PG (X.blk s H scope (compEnvC scope cl Ca X.env) fp) tgE (tGt X.K [] tg)) (ht : ∀ (s : Shared) (H : Hp) (Ca : Addr) (cl : List (Str × Addr)) (fp : List Addr), PTs (X.blk s H scope (compEnvC scope cl Ca X.env) fp) ifs (tTs X.K XC C W0 cs))
    (he : ∀ (s : Shared) (H : Hp) (Ca : Addr) (cl : List (Str × Addr)) (fp : List Addr), PE (X.blk s H scope (compEnvC scope cl Ca X.env) fp) elt (tE X.K XC C W0 A)) (ho : ∀ i ∈ tg.slots, i ∈ own.map (·.2)) (hs : ∀ x, foldedSetIterable iter X.env x = pure x := by intro _; rfl) :
    PS X (.Assign [.Name y py] (.ListComp elt [⟨tgE, iter, ifs, 0⟩] scope pos) spos) (tS X.K XC C W pw (.set i (.comp (own.map (·.2)) tg ik ies cs A))) :=
  (ps_setLc hc hN hy hyl hsw hi ok hg ht (fun s H Ca cl fp => se_f (he s H Ca cl fp)) hs).imp' fun D σ H h => t_set h fun Q q => t_lc q ho
end
end PI

end

section
set_option maxRecDepth 100000
set_option maxHeartbeats 1000000
/-! Pi15: prims. -/
namespace PI
open PySem PySem.Spec PyProof.Rows L2

mutual
def D.toPy : D → PyData
  | .non => .none
  | .bl b => .bool b
  | .int i => .int i
  | .str x => .str x
  | .tup xs => .tuple (D.toPys xs)
  | .lst xs => .list (D.toPys xs)
  | .scr xs => .list (D.toPys xs)
  | .dct _ _ => .dict []
  | .set _ => .dict []
  | .exc _ _ => .dict []
def D.toPys : List D → List PyData
  | [] => []
  | x :: xs => x.toPy :: D.toPys xs
end
mutual
theorem Rep.dp {K : PySem.W.Frag} {H : Hp} : ∀ (d : D) (v : V), Rep K H d v → d.toPy.canLay0 = true → Dp K H v d.toPy
  | .non, v, h, _ => by cases (show v = _ from h); exact .non
  | .bl b, v, h, _ => by cases (show v = _ from h); exact .bl b
  | .int i, v, h, _ => by cases (show v = _ from h); exact .int i
  | .str x, v, h, _ => by cases (show v = _ from h); exact .str x
  | .tup ds, v, h, c => by
    obtain ⟨a, vs, rfl, s, r⟩ := h
    exact .tup s (RepAll.dp ds vs r (by simpa [D.toPy, PyData.canLay0] using c))
  | .lst ds, v, h, c => by
    obtain ⟨a, vs, rfl, s, r⟩ := h
    exact .lst (SqL.of s) (RepAll.dp ds vs r (by simpa [D.toPy, PyData.canLay0] using c))
  | .scr ds, v, h, c => by
    obtain ⟨a, vs, rfl, s, r⟩ := h
    exact .lst s (RepAll.dp ds vs r (by simpa [D.toPy, PyData.canLay0] using c))
  | .dct _ _, v, h, _ => h.elim
  | .set _, v, h, _ => h.elim
  | .exc _ _, v, h, _ => h.elim
theorem RepAll.dp {K : PySem.W.Frag} {H : Hp} : ∀ (ds : List D) (vs : List V), RepAll K H ds vs → PyData.canLayAll0 (D.toPys ds) = true → DpAll K H vs (D.toPys ds)
  | [], vs, h, _ => by cases (show vs = [] from h); exact .nil
  | d :: ds, vs, h, c => by
    obtain ⟨v, r, rfl, h1, h2⟩ := h
    have c' : d.toPy.canLay0 = true ∧ PyData.canLayAll0 (D.toPys ds) = true := by simpa [D.toPys, PyData.canLayAll0] using c
    exact .cons (Rep.dp d v h1 c'.1) (RepAll.dp ds r h2 c'.2)
end
def eqOk (a b : PyData) : Bool := a.canLay0 && b.canLay0 && decide (min a.depth b.depth ≤ 64)
def peq : List D → Option Ent
  | [a, b] => if eqOk a.toPy b.toPy = true then some (.fz (.bl (a.toPy.eqv b.toPy))) else none
  | _ => none
def pne : List D → Option Ent
  | [a, b] => if eqOk a.toPy b.toPy = true then some (.fz (.bl (!a.toPy.eqv b.toPy))) else none
  | _ => none
def padd : List D → Option Ent
  | [.int a, .int b] => some (.fz (.int (a + b)))
  | [.tup a, .tup b] => if a.length + b.length ≤ sizeLine then some (.fz (.tup (a ++ b))) else none
  | [.lst a, .lst b] => if a.length + b.length ≤ sizeLine then some (.ow (.lst (a ++ b))) else none
  | [.str a, .str b] => if a.length + b.length ≤ sizeLine then some (.fz (.str (a ++ b))) else none
  | _ => none
def psub : List D → Option Ent
  | [.int a, .int b] => some (.fz (.int (a - b)))
  | _ => none
def cmulB (a b : Int) : Prop := a.natAbs < 18446744073709551616 ∨ b.natAbs < 18446744073709551616
instance {i j : Int} : Decidable (cmulB i j) := inferInstanceAs (Decidable (_ ∨ _))
theorem cmulB_iff {a b : Int} : cmulB a b ↔ CMul a b := by unfold cmulB CMul; omega
def pmul : List D → Option Ent
  | [.int a, .int b] => if cmulB a b then some (.fz (.int (a * b))) else none
  | [.lst a, .int k] => if k.natAbs < 9223372036854775808 ∧ a.length * k.toNat ≤ sizeLine then some (.ow (.lst (List.replicate k.toNat a).flatten)) else none
  | _ => none
def pfdiv : List D → Option Ent
  | [.int a, .int b] => if b ≠ 0 ∧ b.natAbs < 1073741824 then some (.fz (.int (a.fdiv b))) else none
  | _ => none
def pmod : List D → Option Ent
  | [.int a, .int b] => if b ≠ 0 then some (.fz (.int (a.fmod b))) else none
  | _ => none
def ppow : List D → Option Ent
  | [.int a, .int b] => if 0 ≤ b ∧ b.natAbs ≤ 1000000 ∧ a.natAbs < 18446744073709551616 then some (.fz (.int (a ^ b.toNat))) else none
  | _ => none
def plt : List D → Option Ent
  | [.int a, .int b] => some (.fz (.bl (decide (a < b))))
  | _ => none
def ple : List D → Option Ent
  | [.int a, .int b] => some (.fz (.bl (decide (a ≤ b))))
  | _ => none
def pgt : List D → Option Ent
  | [.int a, .int b] => some (.fz (.bl (decide (b < a))))
  | _ => none
def pge : List D → Option Ent
  | [.int a, .int b] => some (.fz (.bl (decide (b ≤ a))))
  | _ => none
def D.isN : D → Bool
  | .non => true
  | _ => false
def pisN : List D → Option Ent
  | [a, .non] => some (.fz (.bl a.isN))
  | _ => none
def pnotN : List D → Option Ent
  | [a, .non] => some (.fz (.bl (!a.isN)))
  | _ => none
def pneg : List D → Option Ent
  | [.int a] => some (.fz (.int (-a)))
  | _ => none
def pabs : List D → Option Ent
  | [.int a] => some (.fz (.int (if a < 0 then -a else a)))
  | _ => none
def pint : List D → Option Ent
  | [.int a] => some (.fz (.int a))
  | [.bl b] => some (.fz (.int (if b then 1 else 0)))
  | _ => none
def pmin2 : List D → Option Ent
  | [.int a, .int b] => some (.fz (.int (if b < a then b else a)))
  | _ => none
def pmax2 : List D → Option Ent
  | [.int a, .int b] => some (.fz (.int (if b > a then b else a)))
  | _ => none
def plen : List D → Option Ent
  | [.tup xs] => some (.fz (.int xs.length))
  | [.lst xs] => some (.fz (.int xs.length))
  | [.scr xs] => some (.fz (.int xs.length))
  | [.str x] => if x.length ≤ sizeLine then some (.fz (.int x.length)) else none
  | _ => none
def ptuple : List D → Option Ent
  | [.lst xs] => some (.fz (.tup xs))
  | [.tup xs] => some (.fz (.tup xs))
  | [.scr xs] => some (.fz (.tup xs))
  | _ => none
def plist : List D → Option Ent
  | [.lst xs] => some (.ow (.lst xs))
  | [.tup xs] => some (.ow (.lst xs))
  | [.scr xs] => some (.ow (.lst xs))
  | _ => none
def bools : List D → Option (List Bool)
  | [] => some []
  | .bl b :: ds => (bools ds).map (b :: ·)
  | _ :: _ => none
def pall : List D → Option Ent
  | [.lst xs] => (bools xs).map fun bs => .fz (.bl (bs.all id))
  | _ => none
def pany : List D → Option Ent
  | [.lst xs] => (bools xs).map fun bs => .fz (.bl (bs.any id))
  | _ => none
def pidx : List D → Option Ent
  | [.tup xs, .int i] => (atI xs i).map .fz
  | [.lst xs, .int i] => (atI xs i).map .fz
  | [.scr xs, .int i] => (atI xs i).map .fz
  | _ => none
inductive Cl where
  | int | bool | str | tuple | list | none_
def Cl.nm : Cl → String
  | .int => "int" | .bool => "bool" | .str => "str" | .tuple => "tuple" | .list => "list" | .none_ => "NoneType"
def D.cl : D → Option Cl
  | .non => some .none_
  | .bl _ => some .bool
  | .int _ => some .int
  | .str _ => some .str
  | .tup _ => some .tuple
  | .lst _ => some .list
  | _ => none
def isC : Cl → Cl → Bool
  | .int, .int => true | .bool, .int => true | .bool, .bool => true | .str, .str => true | .tuple, .tuple => true | .list, .list => true | .none_, .none_ => true
  | _, _ => false
def pisi (cs : List Cl) : List D → Option Ent
  | [a] => a.cl.map fun c => .fz (.bl (cs.any fun k => isC c k))
  | _ => none

section
variable {X : Cx} {K : PySem.W.Frag}
theorem _root_.L2.OpR.imp' {f : Value → Value → Sem Value} {r r' : R2} (h : OpR X f r) (i : ∀ x y H Q, r' x y H Q → r x y H Q) : OpR X f r' := fun pins s σ H x y v u Q I rx ry q => h pins s σ H x y v u Q I rx ry (i _ _ _ _ q)
theorem _root_.L2.UnR.imp' {f : Value → Sem Value} {r r' : V → Hp → VK → Prop} (h : UnR X f r) (i : ∀ x H Q, r' x H Q → r x H Q) : UnR X f r' := fun pins s σ H x v Q I rx q => h pins s σ H x v Q I rx (i _ _ _ q)
theorem _root_.L2.CallR.imp' {f : Value} {r r' : List V → Hp → VK → Prop} (h : CallR X f r) (i : ∀ x H Q, r' x H Q → r x H Q) : CallR X f r' := fun pins s σ H x v Q I rx q => h pins s σ H x v Q I rx (i _ _ _ q)
theorem rep1 {H : Hp} {d : D} {vs : List V} (h : RepAll K H [d] vs) : ∃ v, vs = [v] ∧ Rep K H d v := by
  obtain ⟨v, r, rfl, h1, h2⟩ := h
  cases (show r = [] from h2)
  exact ⟨v, rfl, h1⟩
theorem rep2 {H : Hp} {d e : D} {vs : List V} (h : RepAll K H [d, e] vs) : ∃ v w, vs = [v, w] ∧ Rep K H d v ∧ Rep K H e w := by
  obtain ⟨v, r, rfl, h1, h2⟩ := h
  obtain ⟨w, rfl, h3⟩ := rep1 h2
  exact ⟨v, w, rfl, h1, h3⟩
theorem rd1 {F H : Hp} {d : D} {vs : List V} (h : RdAll K F H [d] vs) : ∃ v, vs = [v] ∧ Rdb K F H d v := by
  obtain ⟨v, r, rfl, h1, h2⟩ := h
  cases (show r = [] from h2)
  exact ⟨v, rfl, h1⟩
theorem rd2 {F H : Hp} {d e : D} {vs : List V} (h : RdAll K F H [d, e] vs) : ∃ v w, vs = [v, w] ∧ Rdb K F H d v ∧ Rdb K F H e w := by
  obtain ⟨v, r, rfl, h1, h2⟩ := h
  obtain ⟨w, rfl, h3⟩ := rd1 h2
  exact ⟨v, w, rfl, h1, h3⟩
/-- a readable list's items are frozen -/
theorem Rdb.items {F H : Hp} {ds : List D} {v : V} (l : FLe F H) (h : Rdb K F H (.lst ds) v) : ∃ a vs, v = .ref a ∧ H a = some (.lst vs) ∧ RepAll K F ds vs := by
  rcases h with ⟨a, vs, rfl, h1, h2⟩ | ⟨a, rfl, _, vs, h1, h2⟩
  · exact ⟨a, vs, rfl, l _ _ h1, h2⟩
  · exact ⟨a, vs, rfl, h1, h2⟩
theorem Rdb.titems {F H : Hp} {ds : List D} {v : V} (h : Rdb K F H (.tup ds) v) : ∃ a vs, v = .ref a ∧ SqT K F a vs ∧ RepAll K F ds vs := by
  rcases h with ⟨a, vs, rfl, h1, h2⟩ | ⟨a, rfl, _, h⟩
  · exact ⟨a, vs, rfl, h1, h2⟩
  · exact h.elim
theorem Rdb.sitems {F H : Hp} {ds : List D} {v : V} (h : Rdb K F H (.scr ds) v) : ∃ a vs, v = .ref a ∧ SqL K F a vs ∧ RepAll K F ds vs := by
  rcases h with ⟨a, vs, rfl, h1, h2⟩ | ⟨a, rfl, _, h⟩
  · exact ⟨a, vs, rfl, h1, h2⟩
  · exact h.elim
theorem Rdb.int {F H : Hp} {i : Int} {v : V} (h : Rdb K F H (.int i) v) : v = .int i := by
  rcases h with h | ⟨a, rfl, _, h⟩
  · exact h
  · exact h.elim
theorem Rdb.bl {F H : Hp} {b : Bool} {v : V} (h : Rdb K F H (.bl b) v) : v = .bl b := by
  rcases h with h | ⟨a, rfl, _, h⟩
  · exact h
  · exact h.elim
theorem Rdb.str {F H : Hp} {b : Str} {v : V} (h : Rdb K F H (.str b) v) : v = .str b := by
  rcases h with h | ⟨a, rfl, _, h⟩
  · exact h
  · exact h.elim
theorem po_ints {f : Value → Value → Sem Value} {r : R2} {p : List D → Option Ent} (h : OpR X f r) (hp : ∀ ds e, p ds = some e → ∃ i j d v, ds = [.int i, .int j] ∧ e = .fz d ∧ (∀ F, Rep X.K F d v) ∧ ∀ H Q, Q v H → r (.int i) (.int j) H Q) : OpR X f (rP2 X.K p) := h.imp' fun x y H Q h => by
  obtain ⟨F, ds, res, l, R, e, hr, q⟩ := h
  obtain ⟨i, j, d, v, rfl, rfl, hv, hq⟩ := hp _ _ e
  obtain ⟨v1, v2, e1, r1, r2⟩ := rd2 R
  cases e1
  cases r1.int
  cases r2.int
  exact hq H Q (q F H v (new_scal l (hv F)))
theorem po_sub : OpR X (binaryOp .Sub) (rP2 X.K psub) := po_ints op_sub fun ds e h => by
  unfold psub at h; split at h
  · cases h; exact ⟨_, _, _, _, rfl, rfl, fun _ => by unfold Rep; rfl, fun H Q q => ⟨_, _, rfl, rfl, q⟩⟩
  · cases h
theorem po_fdiv : OpR X (binaryOp .FloorDiv) (rP2 X.K pfdiv) := po_ints op_fdivN fun ds e h => by
  unfold pfdiv at h; split at h
  · split at h
    · rename_i hc; cases h; exact ⟨_, _, _, _, rfl, rfl, fun _ => by unfold Rep; rfl, fun H Q q => ⟨_, _, rfl, rfl, hc, q⟩⟩
    · cases h
  · cases h
theorem po_mod : OpR X (binaryOp .Mod) (rP2 X.K pmod) := po_ints op_modN fun ds e h => by
  unfold pmod at h; split at h
  · split at h
    · rename_i hc; cases h; exact ⟨_, _, _, _, rfl, rfl, fun _ => by unfold Rep; rfl, fun H Q q => ⟨_, _, rfl, rfl, hc, q⟩⟩
    · cases h
  · cases h
theorem po_pow : OpR X (binaryOp .Pow) (rP2 X.K ppow) := po_ints op_pow fun ds e h => by
  unfold ppow at h; split at h
  · split at h
    · rename_i hc; cases h; exact ⟨_, _, _, _, rfl, rfl, fun _ => by unfold Rep; rfl, fun H Q q => ⟨_, _, rfl, rfl, ⟨hc.1, by omega, by omega⟩, q⟩⟩
    · cases h
  · cases h
theorem po_lt : OpR X (compareOp .Lt) (rP2 X.K plt) := po_ints op_lt fun ds e h => by
  unfold plt at h; split at h
  · cases h; exact ⟨_, _, _, _, rfl, rfl, fun _ => by unfold Rep; rfl, fun H Q q => ⟨_, _, rfl, rfl, q⟩⟩
  · cases h
theorem po_le : OpR X (compareOp .LtE) (rP2 X.K ple) := po_ints op_le fun ds e h => by
  unfold ple at h; split at h
  · cases h; exact ⟨_, _, _, _, rfl, rfl, fun _ => by unfold Rep; rfl, fun H Q q => ⟨_, _, rfl, rfl, q⟩⟩
  · cases h
theorem po_gt : OpR X (compareOp .Gt) (rP2 X.K pgt) := po_ints op_gt fun ds e h => by
  unfold pgt at h; split at h
  · cases h; exact ⟨_, _, _, _, rfl, rfl, fun _ => by unfold Rep; rfl, fun H Q q => ⟨_, _, rfl, rfl, q⟩⟩
  · cases h
theorem po_ge : OpR X (compareOp .GtE) (rP2 X.K pge) := po_ints op_ge fun ds e h => by
  unfold pge at h; split at h
  · cases h; exact ⟨_, _, _, _, rfl, rfl, fun _ => by unfold Rep; rfl, fun H Q q => ⟨_, _, rfl, rfl, q⟩⟩
  · cases h
/-- a test's answers are truth values -/
theorem hb_lt : ∀ ds r, plt ds = some r → ∃ b, r = .fz (.bl b) := fun ds r h => by unfold plt at h; split at h <;> cases h; exact ⟨_, rfl⟩
theorem hb_le : ∀ ds r, ple ds = some r → ∃ b, r = .fz (.bl b) := fun ds r h => by unfold ple at h; split at h <;> cases h; exact ⟨_, rfl⟩
theorem hb_gt : ∀ ds r, pgt ds = some r → ∃ b, r = .fz (.bl b) := fun ds r h => by unfold pgt at h; split at h <;> cases h; exact ⟨_, rfl⟩
theorem hb_ge : ∀ ds r, pge ds = some r → ∃ b, r = .fz (.bl b) := fun ds r h => by unfold pge at h; split at h <;> cases h; exact ⟨_, rfl⟩
theorem hb_eq : ∀ ds r, peq ds = some r → ∃ b, r = .fz (.bl b) := fun ds r h => by
  unfold peq at h; split at h
  · split at h <;> cases h; exact ⟨_, rfl⟩
  · cases h
theorem hb_ne : ∀ ds r, pne ds = some r → ∃ b, r = .fz (.bl b) := fun ds r h => by
  unfold pne at h; split at h
  · split at h <;> cases h; exact ⟨_, rfl⟩
  · cases h
theorem hb_isN : ∀ ds r, pisN ds = some r → ∃ b, r = .fz (.bl b) := fun ds r h => by unfold pisN at h; split at h <;> cases h; exact ⟨_, rfl⟩
theorem hb_notN : ∀ ds r, pnotN ds = some r → ∃ b, r = .fz (.bl b) := fun ds r h => by unfold pnotN at h; split at h <;> cases h; exact ⟨_, rfl⟩
theorem po_eq (hu : X.A.units + 64 < cLine) : OpR X (compareOp .Eq) (rP2 X.K peq) := by
  intro pins s σ H x y v u Q I rx ry h
  obtain ⟨F, ds, res, l, R, e, hr, q⟩ := h
  unfold peq at e
  split at e
  · rename_i a b
    split at e
    · rename_i hk
      cases e
      obtain ⟨v1, v2, e1, r1, r2⟩ := rep2 (R.read l)
      cases e1
      unfold eqOk at hk
      simp only [Bool.and_eq_true, decide_eq_true_eq] at hk
      obtain ⟨as, q1⟩ := Dp.reads I _ _ v (Rep.dp a x r1 hk.1.1) rx
      obtain ⟨bs, q2⟩ := Dp.reads I _ _ u (Rep.dp b y r2 hk.1.2) ry
      exact SeqAt.compareEq_reads q1 q2 hk.1.1 hk.1.2 (by omega) ⟨.bl _, H, I, rfl, q F H _ (new_scal l (by unfold Rep; rfl))⟩
    · cases e
  · cases e
theorem po_ne (hu : X.A.units + 64 < cLine) : OpR X (compareOp .NotEq) (rP2 X.K pne) := by
  intro pins s σ H x y v u Q I rx ry h
  obtain ⟨F, ds, res, l, R, e, hr, q⟩ := h
  unfold pne at e
  split at e
  · rename_i a b
    split at e
    · rename_i hk
      cases e
      obtain ⟨v1, v2, e1, r1, r2⟩ := rep2 (R.read l)
      cases e1
      unfold eqOk at hk
      simp only [Bool.and_eq_true, decide_eq_true_eq] at hk
      obtain ⟨as, q1⟩ := Dp.reads I _ _ v (Rep.dp a x r1 hk.1.1) rx
      obtain ⟨bs, q2⟩ := Dp.reads I _ _ u (Rep.dp b y r2 hk.1.2) ry
      exact SeqAt.compareNe_reads q1 q2 hk.1.1 hk.1.2 (by omega) ⟨.bl _, H, I, rfl, q F H _ (new_scal l (by unfold Rep; rfl))⟩
    · cases e
  · cases e
theorem isN_dec {H : Hp} {a : D} {x : V} (r : Rep K H a x) : decide (x = .non) = a.isN := by
  cases a with
  | non => cases (show x = _ from r); rfl
  | bl b => cases (show x = _ from r); rfl
  | int i => cases (show x = _ from r); rfl
  | str z => cases (show x = _ from r); rfl
  | tup ds => obtain ⟨a, vs, rfl, _⟩ := r; rfl
  | lst ds => obtain ⟨a, vs, rfl, _⟩ := r; rfl
  | scr ds => obtain ⟨a, vs, rfl, _⟩ := r; rfl
  | dct _ _ => exact r.elim
  | set _ => exact r.elim
  | exc _ _ => exact r.elim
theorem po_isN : OpR X (compareOp .Is) (rP2 X.K pisN) := op_isN.imp' fun x y H Q h => by
  obtain ⟨F, ds, res, l, R, e, hr, q⟩ := h
  unfold pisN at e; split at e
  · cases e
    obtain ⟨v1, v2, e1, r1, r2⟩ := rep2 (R.read l)
    cases e1
    exact ⟨r2, q F H _ (new_scal l (by rw [isN_dec r1]; unfold Rep; rfl))⟩
  · cases e
theorem po_notN : OpR X (compareOp .IsNot) (rP2 X.K pnotN) := op_notN.imp' fun x y H Q h => by
  obtain ⟨F, ds, res, l, R, e, hr, q⟩ := h
  unfold pnotN at e; split at e
  · cases e
    obtain ⟨v1, v2, e1, r1, r2⟩ := rep2 (R.read l)
    cases e1
    exact ⟨r2, q F H _ (new_scal l (by rw [isN_dec r1]; unfold Rep; rfl))⟩
  · cases e
theorem po_neg : UnR X (unaryOp .USub) (rP1 X.K pneg) := un_neg.imp' fun x H Q h => by
  obtain ⟨F, ds, res, l, R, e, hr, q⟩ := h
  unfold pneg at e; split at e
  · cases e
    obtain ⟨v1, e1, r1⟩ := rd1 R
    cases e1; cases r1.int
    exact ⟨_, rfl, q F H _ (new_scal l (by unfold Rep; rfl))⟩
  · cases e
theorem sq_of {F H : Hp} {a : Addr} {vs : List V} (l : FLe F H) (h : SqT K F a vs) : SqT K H a vs := SqT.mono l h
theorem po_add : OpR X (binaryOp .Add) (rP2 X.K padd) := ((op_add.or op_catA).or (op_cat.or op_add_str)).imp' fun x y H Q h => by
  obtain ⟨F, ds, res, l, R, e, hr, q⟩ := h
  unfold padd at e; split at e
  · cases e
    obtain ⟨v1, v2, e1, r1, r2⟩ := rd2 R
    cases e1; cases r1.int; cases r2.int
    exact .inl (.inl ⟨_, _, rfl, rfl, q F H _ (new_scal l (by unfold Rep; rfl))⟩)
  · split at e
    · rename_i hz
      cases e
      obtain ⟨v1, v2, e1, r1, r2⟩ := rd2 R
      cases e1
      obtain ⟨a, vs, rfl, s1, q1⟩ := r1.titems
      obtain ⟨b, ws, rfl, s2, q2⟩ := r2.titems
      refine .inl (.inr ⟨a, b, vs, ws, rfl, rfl, SqT.mono l s1, SqT.mono l s2, by rw [q1.length, q2.length]; exact hz, fun z => ?_, fun z z2 => ?_, fun _ _ p hp => ?_⟩)
      · subst z
        have := q1.length
        have e0 := List.length_eq_zero_iff.mp this.symm
        subst e0
        exact q F H _ (new_scal l ⟨b, ws, rfl, s2, q2⟩)
      · subst z2
        have := q2.length
        have e0 := List.length_eq_zero_iff.mp this.symm
        subst e0
        exact q F H _ (new_scal l ⟨a, vs, rfl, s1, by simpa using q1⟩)
      · exact q _ _ _ (new_tup l hp (q1.append q2))
    · cases e
  · split at e
    · rename_i hz
      cases e
      obtain ⟨v1, v2, e1, r1, r2⟩ := rd2 R
      cases e1
      obtain ⟨a, vs, rfl, s1, q1⟩ := r1.items l
      obtain ⟨b, ws, rfl, s2, q2⟩ := r2.items l
      exact .inr (.inl ⟨a, b, vs, ws, rfl, rfl, s1, s2, by rw [q1.length, q2.length]; exact hz, fun p hp => q _ _ _ (new_lst l hp (q1.append q2))⟩)
    · cases e
  · split at e
    · rename_i hz
      cases e
      obtain ⟨v1, v2, e1, r1, r2⟩ := rd2 R
      cases e1; cases r1.str; cases r2.str
      exact .inr (.inr ⟨_, _, rfl, rfl, hz, q F H _ (new_scal l (by unfold Rep; rfl))⟩)
    · cases e
  · cases e
theorem po_mul : OpR X (binaryOp .Mult) (rP2 X.K pmul) := (op_mul.or op_rep).imp' fun x y H Q h => by
  obtain ⟨F, ds, res, l, R, e, hr, q⟩ := h
  unfold pmul at e; split at e
  · split at e
    · rename_i hc
      cases e
      obtain ⟨v1, v2, e1, r1, r2⟩ := rd2 R
      cases e1; cases r1.int; cases r2.int
      exact .inl ⟨_, _, rfl, rfl, cmulB_iff.mp hc, q F H _ (new_scal l (by unfold Rep; rfl))⟩
    · cases e
  · split at e
    · rename_i hc
      cases e
      obtain ⟨v1, v2, e1, r1, r2⟩ := rd2 R
      cases e1; cases r2.int
      obtain ⟨a, vs, rfl, s1, q1⟩ := r1.items l
      exact .inr ⟨a, _, vs, rfl, rfl, s1, by omega, by omega, by rw [q1.length]; exact hc.2, fun p hp => q _ _ _ (new_lst l hp (q1.flatrep _))⟩
    · cases e
  · cases e
end
end PI

end

section
set_option maxRecDepth 100000
set_option maxHeartbeats 1000000
/-! Pi16: built-in calls, items, slices, pops, chains. -/
namespace PI
open PySem PySem.Spec PyProof.Rows L2
section
variable {X : Cx} {K : PySem.W.Frag}
theorem pc_abs : CallR X (.builtin "abs") (rPn X.K pabs) := call_abs.imp' fun vs H Q h => by
  obtain ⟨F, ds, res, l, R, e, hr, q⟩ := h
  unfold pabs at e; split at e
  · cases e
    obtain ⟨v1, rfl, r1⟩ := rd1 R
    cases r1.int
    exact ⟨_, rfl, q F H _ (new_scal l (by unfold Rep; rfl))⟩
  · cases e
theorem pc_int : CallR X (.type "int") (rPn X.K pint) := call_int1.imp' fun vs H Q h => by
  obtain ⟨F, ds, res, l, R, e, hr, q⟩ := h
  unfold pint at e; split at e
  · cases e
    obtain ⟨v1, rfl, r1⟩ := rd1 R
    cases r1.int
    exact .inl ⟨_, rfl, q F H _ (new_scal l (by unfold Rep; rfl))⟩
  · cases e
    obtain ⟨v1, rfl, r1⟩ := rd1 R
    cases r1.bl
    exact .inr ⟨_, rfl, q F H _ (new_scal l (by unfold Rep; rfl))⟩
  · cases e
theorem pc_min2 (hc : X.calm = true) : CallR X (.builtin "min") (rPn X.K pmin2) := (call_min2 hc).imp' fun vs H Q h => by
  obtain ⟨F, ds, res, l, R, e, hr, q⟩ := h
  unfold pmin2 at e; split at e
  · cases e
    obtain ⟨v1, v2, rfl, r1, r2⟩ := rd2 R
    cases r1.int; cases r2.int
    exact ⟨_, _, rfl, q F H _ (new_scal l (by unfold Rep; rfl))⟩
  · cases e
theorem pc_max2 (hc : X.calm = true) : CallR X (.builtin "max") (rPn X.K pmax2) := (call_max2 hc).imp' fun vs H Q h => by
  obtain ⟨F, ds, res, l, R, e, hr, q⟩ := h
  unfold pmax2 at e; split at e
  · cases e
    obtain ⟨v1, v2, rfl, r1, r2⟩ := rd2 R
    cases r1.int; cases r2.int
    exact ⟨_, _, rfl, q F H _ (new_scal l (by unfold Rep; rfl))⟩
  · cases e
theorem pc_len : CallR X (.builtin "len") (rPn X.K plen) := call_len.imp' fun vs H Q h => by
  obtain ⟨F, ds, res, l, R, e, hr, q⟩ := h
  unfold plen at e; split at e
  · cases e
    obtain ⟨v1, rfl, r1⟩ := rd1 R
    obtain ⟨a, ws, rfl, s, r⟩ := r1.titems
    exact ⟨_, ws.length, rfl, .inr ⟨ws, SqT.mono l s, rfl⟩, q F H _ (new_scal l (by rw [r.length]; unfold Rep; rfl))⟩
  · cases e
    obtain ⟨v1, rfl, r1⟩ := rd1 R
    obtain ⟨a, ws, rfl, s, r⟩ := r1.items l
    exact ⟨_, ws.length, rfl, .inl ⟨ws, SqL.of s, rfl⟩, q F H _ (new_scal l (by rw [r.length]; unfold Rep; rfl))⟩
  · cases e
    obtain ⟨v1, rfl, r1⟩ := rd1 R
    obtain ⟨a, ws, rfl, s, r⟩ := r1.sitems
    exact ⟨_, ws.length, rfl, .inl ⟨ws, SqL.mono l s, rfl⟩, q F H _ (new_scal l (by rw [r.length]; unfold Rep; rfl))⟩
  · split at e
    · rename_i hz
      cases e
      obtain ⟨v1, rfl, r1⟩ := rd1 R
      cases r1.str
      exact ⟨_, _, rfl, ⟨hz, rfl⟩, q F H _ (new_scal l (by unfold Rep; rfl))⟩
    · cases e
  · cases e
theorem pc_tuple : CallR X (.type "tuple") (rPn X.K ptuple) := call_tuple_of.imp' fun vs H Q h => by
  obtain ⟨F, ds, res, l, R, e, hr, q⟩ := h
  unfold ptuple at e; split at e
  · cases e
    obtain ⟨v1, rfl, r1⟩ := rd1 R
    obtain ⟨a, ws, rfl, s, r⟩ := r1.items l
    exact ⟨a, ws, rfl, .inl ⟨SqL.of s, fun p hp => q _ _ _ (new_tup l hp r)⟩⟩
  · cases e
    obtain ⟨v1, rfl, r1⟩ := rd1 R
    obtain ⟨a, ws, rfl, s, r⟩ := r1.titems
    exact ⟨a, ws, rfl, .inr ⟨SqT.mono l s, q F H _ (new_scal l ⟨a, ws, rfl, s, r⟩)⟩⟩
  · cases e
    obtain ⟨v1, rfl, r1⟩ := rd1 R
    obtain ⟨a, ws, rfl, s, r⟩ := r1.sitems
    exact ⟨a, ws, rfl, .inl ⟨SqL.mono l s, fun p hp => q _ _ _ (new_tup l hp r)⟩⟩
  · cases e
theorem pc_list : CallR X (.type "list") (rPn X.K plist) := call_list_of.imp' fun vs H Q h => by
  obtain ⟨F, ds, res, l, R, e, hr, q⟩ := h
  unfold plist at e; split at e
  · cases e
    obtain ⟨v1, rfl, r1⟩ := rd1 R
    obtain ⟨a, ws, rfl, s, r⟩ := r1.items l
    exact ⟨a, ws, rfl, .inl (SqL.of s), fun p hp => q _ _ _ (new_lst l hp r)⟩
  · cases e
    obtain ⟨v1, rfl, r1⟩ := rd1 R
    obtain ⟨a, ws, rfl, s, r⟩ := r1.titems
    exact ⟨a, ws, rfl, .inr (SqT.mono l s), fun p hp => q _ _ _ (new_lst l hp r)⟩
  · cases e
    obtain ⟨v1, rfl, r1⟩ := rd1 R
    obtain ⟨a, ws, rfl, s, r⟩ := r1.sitems
    exact ⟨a, ws, rfl, .inl (SqL.mono l s), fun p hp => q _ _ _ (new_lst l hp r)⟩
  · cases e
theorem bools_rep {F : Hp} : ∀ {ds : List D} {bs : List Bool} {vs : List V}, bools ds = some bs → RepAll K F ds vs → vs = bs.map V.bl
  | [], bs, vs, h, r => by cases h; exact r
  | .bl b :: ds, bs, vs, h, r => by
    obtain ⟨v, vr, rfl, h1, h2⟩ := r
    cases (show v = _ from h1)
    unfold bools at h
    cases q : bools ds with
    | none => rw [q] at h; cases h
    | some bs' => rw [q] at h; cases h; rw [bools_rep q h2]; rfl
  | .non :: _, _, _, h, _ => by cases h
  | .int _ :: _, _, _, h, _ => by cases h
  | .str _ :: _, _, _, h, _ => by cases h
  | .tup _ :: _, _, _, h, _ => by cases h
  | .lst _ :: _, _, _, h, _ => by cases h
  | .dct _ _ :: _, _, _, h, _ => by cases h
  | .set _ :: _, _, _, h, _ => by cases h
  | .exc _ _ :: _, _, _, h, _ => by cases h
  | .scr _ :: _, _, _, h, _ => by cases h
theorem pc_all (hc : X.calm = true) : CallR X (.builtin "all") (rPn X.K pall) := (cr_all hc).imp' fun vs H Q h => by
  obtain ⟨F, ds, res, l, R, e, hr, q⟩ := h
  unfold pall at e; split at e
  · rename_i xs
    cases z : bools xs with
    | none => rw [z] at e; cases e
    | some bs =>
      rw [z] at e; cases e
      obtain ⟨v1, rfl, r1⟩ := rd1 R
      obtain ⟨a, ws, rfl, s, r⟩ := r1.items l
      have := bools_rep z r
      subst this
      exact ⟨a, bs, rfl, SqL.of s, q F H _ (new_scal l (by unfold Rep; rfl))⟩
  · cases e
theorem pc_any (hc : X.calm = true) : CallR X (.builtin "any") (rPn X.K pany) := (cr_any hc).imp' fun vs H Q h => by
  obtain ⟨F, ds, res, l, R, e, hr, q⟩ := h
  unfold pany at e; split at e
  · rename_i xs
    cases z : bools xs with
    | none => rw [z] at e; cases e
    | some bs =>
      rw [z] at e; cases e
      obtain ⟨v1, rfl, r1⟩ := rd1 R
      obtain ⟨a, ws, rfl, s, r⟩ := r1.items l
      have := bools_rep z r
      subst this
      exact ⟨a, bs, rfl, SqL.of s, q F H _ (new_scal l (by unfold Rep; rfl))⟩
  · cases e
/-! ### items, slices -/
theorem rep_at {F : Hp} {ds : List D} {vs : List V} {i : Int} {d : D} (r : RepAll K F ds vs) (h : atI ds i = some d) : ∃ v, atI vs i = some v ∧ Rep K F d v := by
  unfold atI at h ⊢
  rw [r.length]
  cases q : ixN ds.length i with
  | none => rw [q] at h; cases h
  | some j =>
    rw [q] at h
    exact r.get h
theorem px_idx : IxR X (rP2 X.K pidx) := fun value slice pins s σ H x y v u Q I rx ry h hs => by
  refine ix_seq value slice pins s σ H x y v u Q I rx ry ?_ hs
  obtain ⟨F, ds, res, l, R, e, hr, q⟩ := h
  unfold pidx at e; split at e
  · rename_i xs i
    cases z : atI xs i with
    | none => rw [z] at e; cases e
    | some d =>
      rw [z] at e; cases e
      obtain ⟨v1, v2, e1, r1, r2⟩ := rd2 R
      cases e1; cases r2.int
      obtain ⟨a, ws, rfl, s, r⟩ := r1.titems
      obtain ⟨w, hw, rw'⟩ := rep_at r z
      exact .inr (.inl ⟨a, ws, i, w, rfl, rfl, SqT.mono l s, hw, q F H _ (new_scal l rw')⟩)
  · rename_i xs i
    cases z : atI xs i with
    | none => rw [z] at e; cases e
    | some d =>
      rw [z] at e; cases e
      obtain ⟨v1, v2, e1, r1, r2⟩ := rd2 R
      cases e1; cases r2.int
      obtain ⟨a, ws, rfl, s, r⟩ := r1.items l
      obtain ⟨w, hw, rw'⟩ := rep_at r z
      exact .inl ⟨a, ws, i, w, rfl, rfl, SqL.of s, hw, q F H _ (new_scal l rw')⟩
  · rename_i xs i
    cases z : atI xs i with
    | none => rw [z] at e; cases e
    | some d =>
      rw [z] at e; cases e
      obtain ⟨v1, v2, e1, r1, r2⟩ := rd2 R
      cases e1; cases r2.int
      obtain ⟨a, ws, rfl, s, r⟩ := r1.sitems
      obtain ⟨w, hw, rw'⟩ := rep_at r z
      exact .inl ⟨a, ws, i, w, rfl, rfl, SqL.mono l s, hw, q F H _ (new_scal l rw')⟩
  · cases e
theorem cut_rep {F : Hp} {ds : List D} {vs : List V} (r : RepAll K F ds vs) (lo hi : Option Int) : RepAll K F (cutD ds lo hi) (cutV vs lo hi) := by
  unfold cutD cutV
  rw [r.length]
  exact RepAll.take _ (RepAll.drop _ r)
theorem cut_whole {vs : List V} {lo hi : Option Int} (h : HT.sIx vs.length 0 lo = 0 ∧ HT.sIx vs.length vs.length hi = vs.length) : cutV vs lo hi = vs := by
  unfold cutV; rw [h.1, h.2]; simp
theorem ps_any : SlR X (fun x lo hi H Q => ∃ F d res, FLe F H ∧ Rdb X.K F H d x ∧ slD lo hi d = some res ∧ ∀ F' H' v, New X.K F H F' H' res v → Q v H') := by
  intro pins s σ H x v vl vu lo hi sl Q I rx hs pl pu h
  refine (SlR.or (SlR.or sl_list sl_tupA) sl_str) pins s σ H x v vl vu lo hi sl Q I rx hs pl pu ?_
  obtain ⟨F, d, res, l, r1, e, q⟩ := h
  cases d with
  | tup xs =>
    cases e
    obtain ⟨a, ws, rfl, s, r⟩ := r1.titems
    refine .inl (.inr ⟨a, ws, rfl, SqT.mono l s, fun w => ?_, fun w p hp => q _ _ _ (new_tup l hp (cut_rep r lo hi))⟩)
    have := cut_rep r lo hi
    rw [cut_whole w] at this
    exact q F H _ (new_scal l ⟨a, ws, rfl, s, this⟩)
  | lst xs =>
    cases e
    obtain ⟨a, ws, rfl, s, r⟩ := r1.items l
    exact .inl (.inl ⟨a, ws, rfl, SqL.of s, fun p hp => q _ _ _ (new_lst l hp (cut_rep r lo hi))⟩)
  | scr xs =>
    cases e
    obtain ⟨a, ws, rfl, s, r⟩ := r1.sitems
    exact .inl (.inl ⟨a, ws, rfl, SqL.mono l s, fun p hp => q _ _ _ (new_lst l hp (cut_rep r lo hi))⟩)
  | str x =>
    replace e : (if x.length ≤ sizeLine then some (Ent.fz (.str (cutS x lo hi))) else none) = some res := e
    split at e
    · rename_i hz
      cases e
      cases r1.str
      exact .inr ⟨_, rfl, hz, q F H _ (new_scal l (by unfold Rep; rfl))⟩
    · cases e
  | _ => cases e
variable {XC : Str → Value → Prop} {C : Calls} {W : WX} {a b c : Expr} {A B E1 : E} {pos p2 : Pos}
theorem se_idx (ha : PE X a (tO X.K XC C W A)) (hb : PE X b (tO X.K XC C W B)) (hs : PlainIx b := by intro _ _; rfl) : PE X (.Subscript a b pos) (tE X.K XC C W (.pn pidx [A, B])) := (pe_ix px_idx ha hb hs).imp' fun _ _ _ => t_bin
def tP (K : PySem.W.Frag) (XC : Str → Value → Prop) (C : Calls) (W : WX) (lo : List E) : TO := fun σ H Q => tM K XC W (evP C lo) (fun _ => []) (fun _ _ _ => True) σ H (fun o _ H => Q o H)
theorem _root_.L2.PO.imp' {e : Option Expr} {t t' : TO} (h : PO X e t) (i : ∀ σ H Q, t' σ H Q → t σ H Q) : PO X e t' := ⟨fun pins s σ H Q I q => h.run pins s σ H Q I (i _ _ _ q)⟩
theorem sp_none : PO X none (tP X.K XC C W []) := po_none.imp' fun σ H Q h => by
  obtain ⟨F, env, S, h⟩ := h
  rw [show evP C [] env = .ok none env from by unfold evP; rfl] at h
  exact h F H [] (Post.nil S) trivial
theorem sp_some (ha : PE X a (tE X.K XC C W A)) : PO X (some a) (tP X.K XC C W [A]) := (po_some ha).imp' fun σ H Q h => by
  refine tM_bind (m := ev C A) (f := intE) (peβ := fun _ => []) (okβ := fun _ _ _ => True) (Q := fun o _ H => Q o H) (by
    have : evP C [A] = fun e => (ev C A e).bind intE := by funext e; rw [evP]
    rw [← this]; exact h) fun F env F1 env1 r vs H1 S em P o g v ev_ => ?_
  obtain ⟨hr, v', rfl⟩ := o
  cases ev_
  cases e : intE r env1 with
  | ok i env2 =>
    rw [e] at g
    unfold intE at e
    split at e
    · rename_i i
      cases e
      exact ⟨i, P.st.lastEnt P.len hr, g F1 H1 [] (Post.of P.base P.bext) trivial⟩
    · cases e
  | ex c ps env2 => unfold intE at e; split at e <;> cases e
  | no => rw [e] at g; exact g.elim
theorem tM_pend {α β : Type} {m : En → Res α} {F F1 : Hp} {env env1 pe1 : En} {σ : L2.St} {H H1 : Hp} {vs1 : List V} {pe : α → En} {ok : α → L2.St → List V → Prop} {f : α → En → Res β} {p : β → En → Prop} {Q : α → List V → Hp → Prop} (P : Post X.K F env σ H F1 env1 pe1 vs1 H1)
    (h : ((m env1).bind f).wish p fun c ps env2 => exP X.K XC W F env σ H c ps env2)
    (g : ∀ F2 H2 x env2 ws, Post X.K F env σ H F2 env2 (pe1 ++ pe x) (vs1 ++ ws) H2 → ok x σ ws → (f x env2).wish p (fun c ps env2 => exP X.K XC W F env σ H c ps env2) → Q x ws H2) : tM X.K XC W m pe ok σ H1 Q := by
  refine tM_next (F := F) (env := env) (H := H) P ?_
  cases e : m env1 with
  | ok x env2 =>
    rw [e] at h
    exact fun F2 H2 ws P2 o => g F2 H2 x env2 ws (P.seq P2) o h
  | ex c ps env2 => rw [e] at h; exact h
  | no => rw [e] at h; exact h
theorem se_sl {lo hi : Option Expr} {Lo Hi : List E} (ha : PE X a (tO X.K XC C W A)) (hl : PO X lo (tP X.K XC C W Lo)) (hh : PO X hi (tP X.K XC C W Hi)) : PE X (.Subscript a (.Slice lo hi none p2) pos) (tE X.K XC C W (.sl A Lo Hi)) := (pe_slice ps_any ha hl hh).imp' fun σ H Q h => by
  refine tM_bind (m := opnd (ev C A) A) (f := fun x e => (evP C Lo e).bind fun l e => (evP C Hi e).bind fun h e => onSl l h (x.ent e) e) (peβ := fun r => [r]) (okβ := okR) (Q := one Q) (by
    have : ev C (.sl A Lo Hi) = fun e => (opnd (ev C A) A e).bind fun x e => (evP C Lo e).bind fun l e => (evP C Hi e).bind fun h e => onSl l h (x.ent e) e := by funext e; rw [ev]
    rw [← this]; exact h) fun F env F1 env1 x vs H1 S em P o g v ev_ => ?_
  obtain ⟨v', rfl, o⟩ := o
  cases ev_
  refine tM_pend P g fun F2 H2 l env2 ws P2 _ g2 => ?_
  refine tM_pend P2 g2 fun F3 H3 h env3 ws3 P3 _ g3 => ?_
  have e1 : ws = [] := by have := P2.pl; simp at this; exact this
  have e2 : ws3 = [] := by have := P3.pl; subst e1; simp at this; exact this
  subst e1 e2
  unfold onSl at g3
  cases q : (x.ent env3).d with
  | none => rw [q] at g3; exact g3.elim
  | some d =>
    rw [q] at g3
    dsimp only at g3
    have P4 : Post X.K F env σ H F3 env3 [x.pe] [v] H3 := by simpa using P3
    cases q2 : slD l h d with
    | none => rw [q2] at g3; exact g3.elim
    | some r =>
      rw [q2] at g3
      refine ⟨F3, d, r, P4.base.le, opd1 P4 o q, q2, fun F' H' v n => ?_⟩
      have hr : r ≠ .un := by
        cases d <;> simp only [slD] at q2 <;> (try split at q2) <;> cases q2 <;> simp
      cases r with
      | un => exact (hr rfl).elim
      | fz d => exact g3 F' H' [v] (P4.drop (Post.new P4.base n)) ⟨by simp, v, rfl⟩ v rfl
      | ow d => exact g3 F' H' [v] (P4.drop (Post.new P4.base n)) ⟨by simp, v, rfl⟩ v rfl
/-! ### isinstance -/
theorem tyx_of {H : Hp} {d : D} {v : V} {k : Cl} (r : Rep K H d v) (h : d.cl = some k) : TyX K H v (.type k.nm) := by
  cases d with
  | non => cases h; cases (show v = _ from r); exact .base .non
  | bl b => cases h; cases (show v = _ from r); exact .base (.bl b)
  | int i => cases h; cases (show v = _ from r); exact .base (.int i)
  | str x => cases h; cases (show v = _ from r); exact .base (.str x)
  | tup ds =>
    cases h
    obtain ⟨a, vs, rfl, s, _⟩ := r
    rcases s with (s | ⟨o, s⟩) | ⟨o, its, n, s, sc, _⟩
    · exact .base (.tup s)
    · exact .fTuple s
    · exact .kTuple s sc
  | lst ds =>
    cases h
    obtain ⟨a, vs, rfl, s, _⟩ := r
    exact .base (.lst s)
  | _ => cases h
theorem kit_cl {k c : Cl} : PySem.W.kitOne K (.type k.nm) (.type c.nm) = some (isC k c) := by
  refine kit_ty ?_
  cases k <;> cases c <;> decide +kernel
theorem kit_cls {k : Cl} : ∀ {cs : List Cl}, PySem.W.kitAny K (.type k.nm) (cs.map fun c => Value.type c.nm) = some (cs.any fun c => isC k c)
  | [] => rfl
  | c :: cs => by
    have h1 := kit_cl (K := K) (k := k) (c := c)
    have h2 := kit_cls (k := k) (cs := cs)
    show PySem.W.kitAny K _ (Value.type c.nm :: _) = _
    unfold PySem.W.kitAny
    rw [h1]
    cases q : isC k c with
    | true => simp [q]
    | false => simpa [q] using h2
/-- isinstance(e, c) -/
theorem se_isi1 {cn : Expr} {k : Cl} {p : Pos} {rest : List Expr} (hg : Gl X "isinstance") (hm : X.mg "isinstance" = none) (ha : PE X a (tO X.K XC C W A)) (hcn : PE X cn (tC (.ty k.nm)))
    (hs : starEach [a, cn] X.env = (false, eval a X.env) :: starEach [cn] X.env := by rfl) (hs2 : starEach [cn] X.env = (false, eval cn X.env) :: starEach [] X.env := by rfl) (hpl : (backTo pos (starEach [cn] X.env)).any (·.1) = false := by rfl) :
    PE X (.Call (.Name "isinstance" p) [a, cn] [] pos) (tE X.K XC C W (.pn (pisi [k]) [A])) := (pe_callB call_isi hg hm (by decide +kernel) (pa_cons ha (pa_cons hcn pa_nil hs2) hs) (by decide) (by decide) hs hpl).imp' fun σ H Q h => by
  have h2 := t_un h
  obtain ⟨F, env, S, h2⟩ := h2
  refine ⟨F, env, S, ?_⟩
  cases e : opnd (ev C A) A env with
  | no => rw [e] at h2; exact h2
  | ex c ps env1 => rw [e] at h2; exact h2
  | ok x env1 =>
    rw [e] at h2
    intro F' H' vs P o v ev_
    obtain ⟨F2, ds, res, l, R, e2, hr, q⟩ := h2 F' H' vs P o v ev_
    unfold pisi at e2
    split at e2
    · rename_i d
      cases z : d.cl with
      | none => rw [z] at e2; cases e2
      | some c =>
        rw [z] at e2
        simp only [Option.map_some, Option.some.injEq] at e2
        subst e2
        obtain ⟨v1, e1, r1⟩ := rd1 R
        cases e1
        refine ⟨v, .ty k.nm, .type c.nm, .type k.nm, isC c k, rfl, .ty _, tyx_of (r1.read l) z, kit_cl, q F2 H' _ (new_scal l ?_)⟩
        simp [Rep]
    · cases e2
/-- isinstance(e, (c1, c2, ..)) -/
theorem se_isiT {cn : List Expr} {cs : List Cl} {p pt : Pos} {kt : Nat} (hg : Gl X "isinstance") (hm : X.mg "isinstance" = none) (ha : PE X a (tO X.K XC C W A)) (hcn : PA X cn (fun _ H Q => Q (cs.map fun k => V.ty k.nm) H)) (hz : cs.length ≤ sizeLine := by decide)
    (hs : starEach [a, .Tuple cn kt pt] X.env = (false, eval a X.env) :: starEach [.Tuple cn kt pt] X.env := by rfl) (hs2 : starEach [.Tuple cn kt pt] X.env = (false, eval (.Tuple cn kt pt) X.env) :: starEach [] X.env := by rfl) (hpl : (backTo pos (starEach [.Tuple cn kt pt] X.env)).any (·.1) = false := by rfl) :
    PE X (.Call (.Name "isinstance" p) [a, .Tuple cn kt pt] [] pos) (tE X.K XC C W (.pn (pisi cs) [A])) := (pe_callB call_isiT hg hm (by decide +kernel) (pa_cons ha (pa_cons (pe_tup hcn) pa_nil hs2) hs) (by decide) (by decide) hs hpl).imp' fun σ H Q h => by
  have h2 := t_un h
  obtain ⟨F, env, S, h2⟩ := h2
  refine ⟨F, env, S, ?_⟩
  cases e : opnd (ev C A) A env with
  | no => rw [e] at h2; exact h2
  | ex c ps env1 => rw [e] at h2; exact h2
  | ok x env1 =>
    rw [e] at h2
    intro F' H' vs P o v ev_
    obtain ⟨F2, ds, res, l, R, e2, hr, q⟩ := h2 F' H' vs P o v ev_
    unfold pisi at e2
    split at e2
    · rename_i d
      cases z : d.cl with
      | none => rw [z] at e2; cases e2
      | some c =>
        rw [z] at e2
        simp only [Option.map_some, Option.some.injEq] at e2
        subst e2
        obtain ⟨v1, e1, r1⟩ := rd1 R
        cases e1
        refine ⟨by simpa using hz, fun tp htp => ?_⟩
        have same : Same H' (upd H' tp (.tup (cs.map fun k => V.ty k.nm))) := same_upd' htp
        have le2 : FLe H' (upd H' tp (.tup (cs.map fun k => V.ty k.nm))) := same
        refine ⟨v, tp, cs.map fun k => V.ty k.nm, .type c.nm, cs.map fun k => Value.type k.nm, cs.any fun k => isC c k, rfl, upd_same, ?_, tyx_of (Rep.mono le2 _ _ (r1.read l)) z, kit_cls, q F2 _ _ ?_⟩
        · clear hcn hz hs hs2 hpl h h2 q same le2 hr
          induction cs with
          | nil => exact .nil
          | cons c cs ih => exact .cons (.ty _) ih
        · exact { le := FLe.refl, le' := l.trans le2, same := same, new := fun _ _ h h' => by rw [h] at h'; cases h'
                  ent := by simp [EntOk, Rep], own := fun _ h => by cases h }
    · cases e2
theorem pcl {x : Str} {k : Cl} {p : Pos} (hg : Gl X x) (hm : X.mg x = none) (hv : bootBuiltins x = some (.type k.nm)) (hn : x ≠ "__name__" := by decide) (hd : (x == ("__debug__" : Str)) = false := by decide) : PE X (.Name x p) (tC (.ty k.nm)) := pe_bltn hg hm hv rfl hn hd
theorem pcls_nil : PA X [] (fun _ H Q => Q (([] : List Cl).map fun k => V.ty k.nm) H) := pa_nil
theorem pcls_cons {e : Expr} {es : List Expr} {k : Cl} {ks : List Cl} (h : PE X e (tC (.ty k.nm))) (t : PA X es (fun _ H Q => Q (ks.map fun k => V.ty k.nm) H)) (hs : starEach (e :: es) X.env = (false, eval e X.env) :: starEach es X.env := by rfl) : PA X (e :: es) (fun _ H Q => Q ((k :: ks).map fun k => V.ty k.nm) H) := (pa_cons h t hs).imp' fun _ _ _ q => q
end
end PI

end

section
set_option maxRecDepth 100000
set_option maxHeartbeats 1000000
/-! Pi17: pops, chains, raises; a def's rule. -/
namespace PI
open PySem PySem.Spec PyProof.Rows L2
section
variable {X : Cx} {XC : Str → Value → Prop} {C : Calls} {W : WX} {pw : List Nat} {K : PySem.W.Frag}
variable {e a b c xe : Expr} {A B E1 : E} {pos cpos apos : Pos} {i : Nat}
theorem popLast_ok {ds : List D} {e e' : En} {r : Ent} (h : popLast i ds e = .ok r e') : ∃ d, r = .fz d ∧ ds[ds.length - 1]? = some d ∧ e' = e.set i (.ow (.lst ds.dropLast)) := by
  unfold popLast at h
  split at h
  · cases h; exact ⟨_, rfl, by assumption, rfl⟩
  · cases h
/-- x.pop() -/
theorem se_popL (hx : PE X xe (tVar i)) (pr : ∀ {tx : TE}, PE X xe tx → PE X (.Call (.Attribute xe "pop" apos) [] [] cpos) (tBM0 X.K "list" rPop tx)) : PE X (.Call (.Attribute xe "pop" apos) [] [] cpos) (tE X.K XC C W (.popL i)) := (pr hx).imp' fun σ H Q h => by
  obtain ⟨F, env, S, h⟩ := h
  rw [ev] at h
  cases q : ownL env i with
  | none => rw [q] at h; exact h.elim
  | some ds =>
    rw [q] at h
    dsimp only at h
    cases q2 : popLast i ds env with
    | no => rw [q2] at h; exact h.elim
    | ex c ps e2 => unfold popLast at q2; split at q2 <;> cases q2
    | ok r e2 =>
      rw [q2] at h
      obtain ⟨d, rfl, hd, rfl⟩ := popLast_ok q2
      obtain ⟨p, vs, h1, h2, h3⟩ := S.ownAt (ownL_some q)
      obtain ⟨v, hv, rv⟩ := h3.get hd
      rw [← h3.length] at hv
      obtain ⟨S2, x2⟩ := S.writeAt (ownL_some q) h1 h3.dropLast
      exact ⟨.ref p, h1, .inl ⟨rfl, vs, SqL.of h2⟩, p, vs, v, rfl, rfl, h2, hv, h _ _ [v] (Post.then S2 x2 (Post.new S2 (new_scal S2.le rv))) ⟨by simp, v, rfl⟩ v rfl⟩
/-- x.pop(ix) -/
theorem se_popA (hx : PE X xe (tVar i)) (hi : PE X e (tE X.K XC C W A)) (pr : ∀ {tx : TE} {t : TA}, PE X xe tx → PA X [e] t → PE X (.Call (.Attribute xe "pop" apos) [e] [] cpos) (tBM X.K "list" rPopAt tx t)) (hs : starEach [e] X.env = (false, eval e X.env) :: starEach [] X.env := by rfl) :
    PE X (.Call (.Attribute xe "pop" apos) [e] [] cpos) (tE X.K XC C W (.popA i A)) := (pr hx (pa_cons hi pa_nil hs)).imp' fun σ H Q h => by
  obtain ⟨F, env, S, h⟩ := h
  rw [ev] at h
  cases q : ownL env i with
  | none => rw [q] at h; exact h.elim
  | some ds0 =>
    rw [q] at h
    dsimp only at h
    obtain ⟨p, vs0, h1, h2, _⟩ := S.ownAt (ownL_some q)
    refine ⟨.ref p, h1, .inl ⟨rfl, vs0, SqL.of h2⟩, F, env, S, ?_⟩
    cases e1 : ev C A env with
    | no => rw [e1] at h; exact h
    | ex c ps env1 => rw [e1] at h; exact h
    | ok r env1 =>
      rw [e1] at h
      intro F1 H1 vs P o w ew
      obtain ⟨hr, w', rfl⟩ := o
      cases ew
      replace h : (popAt i r env1).wish (fun r env' => ∀ F' H' vs, Post X.K F env σ H F' env' [r] vs H' → okR r σ vs → one Q r vs H') fun c ps env' => exP X.K XC W F env σ H c ps env' := h
      unfold popAt at h
      split at h
      · rename_i k ds qk
        split at h
        · rename_i hk
          split at h
          · rename_i j hj
            split at h
            · rename_i d hd
              obtain ⟨p', vs1, h3, h4, h5⟩ := P.base.ownAt (ownL_some qk)
              rw [h1] at h3; cases h3
              obtain ⟨v, hv, rv⟩ := h5.get hd
              have rk : w = .int k := P.st.lastEnt P.len (by simp)
              subst rk
              obtain ⟨S2, x2⟩ := P.base.writeAt (ownL_some qk) h1 (h5.eraseIdx j)
              exact ⟨p, vs1, k, j, v, rfl, rfl, h4, by omega, by omega, by rw [h5.length]; exact hj, hv, h _ _ [v] (Post.then S2 (P.bext.trans x2) (Post.new S2 (new_scal S2.le rv))) ⟨by simp, v, rfl⟩ v rfl⟩
            · exact h.elim
          · exact h.elim
        · exact h.elim
      · exact h.elim
/-! ### a def -/
/-- the evaluator's table and its names; what a body's derivation is asked -/
structure FnCx (P : Program) (w : World) (K : PySem.W.Frag) (mg : Str → Option Value) (base : Heap) (XC : Str → Value → Prop) (C : Calls) (k : Nat) (names : List Str) : Prop where
  at_ : ∀ (i : Nat) (x : Str), names[i]? = some x → DefAt P w K mg base XC C k x i
/-- one def: its promise from its body's derivation -/
theorem def_ok {P : Program} {w : World} {K : PySem.W.Frag} {mg : Str → Option Value} {base : Heap} {XC : Str → Value → Prop} {tbl : List FD} {k f : Nat} {fd' : FD} {x qual : Str} {params : Arguments} {body : List Stmt} {scope : Scope} {fa : Addr} {fd : FuncData} {N ps : List Str}
    (D0 : FunD K x qual params body scope [] [] fa fd) (S : FnScope N ps scope) (hf : tbl[f]? = some fd') (hnp : fd'.np = ps.length) (hnl : fd'.nl = N.length) (hle : ps.length ≤ N.length) (hpw : ∀ i ∈ fd'.pw, i < fd'.np)
    (hbody : ∀ (cdv : Value) (A : Around) (outer : List Env) (s : Shared) (H : Hp) (E : XK), Room k (A.deeper (envOfC qual scope s.heap.objs.size fa cdv)) →
      PSs (cxOf (L2.CX P w) P w K mg base N qual scope fa cdv A outer s H E) body (tSs K XC (run tbl k) (fun cls d _ H => E cls d H) fd'.pw fd'.body)) :
    FnOk P w K mg base (L2.CX P w) (k + 1) fa fd ps (spI K XC (run tbl (k + 1)) f) := by
  refine D0.ok S (fun vs H Q E h => ?_) (fun cdv A outer s H vs Q E hr h => ⟨_, hbody cdv A outer s H E hr, ?_⟩)
  · obtain ⟨F, args, St', h⟩ := h
    unfold run at h
    rw [hf] at h
    dsimp only at h
    split at h
    · rename_i r outs hh
      split at hh
      · rename_i hl
        have := St'.len
        simp at this
        omega
      · cases hh
    · rename_i hh
      split at hh
      · rename_i hl
        have := St'.len
        simp at this
        omega
      · cases hh
    · exact h.elim
  · obtain ⟨F, args, S0, h⟩ := h
    unfold run at h
    rw [hf] at h
    dsimp only at h
    by_cases hl : args.length = fd'.np
    · rw [if_pos hl] at h
      have hlv : vs.length = args.length := by have := S0.len; simp at this; exact this.symm
      have S1 := S0.rel (env' := args ++ List.replicate (fd'.nl - fd'.np) .un) (σ' := L2.start N vs) (fun i k => i = k) (by simp [L2.start]; omega) (fun i j k h1 h2 => h1.trans h2.symm) (fun i r e hr' => by
        by_cases hi : i < args.length
        · rw [List.getElem?_append_left hi] at e
          refine ⟨i, rfl, e, fun v ev_ => ?_⟩
          unfold L2.start
          rw [List.getElem?_append_left (by simp; omega)]; exact ev_
        · rw [List.getElem?_append_right (by omega), List.getElem?_replicate] at e
          split at e
          · cases e; exact (hr' rfl).elim
          · cases e)
      refine ⟨F, _, S1.1, ?_⟩
      -- behind the body
      have fin : ∀ (e : En) (pe : En) (rv : List V) (F' H' : Hp) (σ' : L2.St), St K F' (e ++ pe) (σ' ++ rv.map some) H' → Ext F (args ++ List.replicate (fd'.nl - fd'.np) .un) (L2.start N vs) H F' (e ++ pe) (σ' ++ rv.map some) H' → e.length = σ'.length → pe.length = rv.length → SamePw fd'.pw (L2.start N vs) σ' →
          St K F' (outsOf fd' e ++ pe) (vs.map some ++ rv.map some) H' ∧ Ext F args (vs.map some) H F' (outsOf fd' e ++ pe) (vs.map some ++ rv.map some) H' := by
        intro e pe rv F' H' σ' S2 x2 le lp sp
        have lo : (outsOf fd' e).length = vs.length := by simp [outsOf]; omega
        obtain ⟨S3, x3⟩ := S2.rel (env' := outsOf fd' e ++ pe) (σ' := vs.map some ++ rv.map some) (fun i k => (i < vs.length ∧ k = i ∧ i < e.length) ∨ (vs.length ≤ i ∧ k = e.length + (i - vs.length))) (by simp [lo, lp]) (by
          rintro i j k (⟨z1, z2, z3⟩ | ⟨z1, z2⟩) (⟨y1, y2, y3⟩ | ⟨y1, y2⟩) <;> omega) (fun i r er hr' => by
          by_cases hi : i < vs.length
          · rw [List.getElem?_append_left (by omega)] at er
            have hi2 : i < fd'.np := by omega
            simp only [outsOf, List.getElem?_map, List.getElem?_range hi2, Option.map_some, Option.some.injEq] at er
            split at er
            · rename_i hm
              cases q : e[i]? with
              | none => rw [q] at er; exact (hr' er.symm).elim
              | some u =>
                rw [q] at er; simp at er; subst er
                have hie := (List.getElem?_eq_some_iff.mp q).1
                refine ⟨i, .inl ⟨hi, rfl, hie⟩, by rw [List.getElem?_append_left hie]; exact q, fun v ev_ => ?_⟩
                rw [List.getElem?_append_left (by omega), sp i hm] at ev_
                unfold L2.start at ev_
                rw [List.getElem?_append_left (by simpa using hi)] at ev_
                rw [List.getElem?_append_left (by simpa using hi)]; exact ev_
            · exact (hr' er.symm).elim
          · rw [List.getElem?_append_right (by omega), lo] at er
            refine ⟨e.length + (i - vs.length), .inr ⟨by omega, rfl⟩, by rw [List.getElem?_append_right (by omega), Nat.add_sub_cancel_left]; exact er, fun v ev_ => ?_⟩
            rw [List.getElem?_append_right (by omega), le, Nat.add_sub_cancel_left] at ev_
            rw [List.getElem?_append_right (by simp; omega), List.length_map]; exact ev_)
        exact ⟨S3, (S1.2.trans x2).trans x3⟩
      cases e : execs (run tbl k) fd'.pw fd'.body (args ++ List.replicate (fd'.nl - fd'.np) .un) with
      | nx e1 =>
        rw [e] at h
        intro F' H' σ' S2 x2 sp
        obtain ⟨S3, x3⟩ := S2.new (new_scal (d := .non) (v := .non) S2.le (by unfold Rep; rfl))
        obtain ⟨S4, x4⟩ := fin e1 [.fz .non] [.non] F' H' σ' (by simpa using S3) (x2.trans (by simpa using x3)) S2.len rfl sp
        exact h (by simp) F' H' .non (by simpa using S4) (by simpa using x4)
      | rt r e1 =>
        rw [e] at h
        intro hr' F' H' σ' v S2 x2 le sp
        obtain ⟨S4, x4⟩ := fin e1 [r] [v] F' H' σ' (by simpa using S2) (by simpa using x2) le rfl sp
        exact h hr' F' H' v (by simpa using S4) (by simpa using x4)
      | ex c ps e1 =>
        rw [e] at h
        intro F' H' σ' cls dx S2 x2 sp z
        obtain ⟨S4, x4⟩ := fin e1 [] [] F' H' σ' (by simpa using S2) (by simpa using x2) S2.len rfl sp
        exact h F' H' cls dx (by simpa using S4) (by simpa using x4) z
      | bk e1 => rw [e] at h; exact h.elim
      | ct e1 => rw [e] at h; exact h.elim
      | no => rw [e] at h; exact h.elim
    · rw [if_neg hl] at h; exact h.elim
/-- at no level nothing is promised -/
theorem def_zero {P : Program} {w : World} {K : PySem.W.Frag} {mg : Str → Option Value} {base : Heap} {XC : Str → Value → Prop} {tbl : List FD} {f : Nat} {fa : Addr} {fd : FuncData} {ps : List Str} : FnOk P w K mg base (L2.CX P w) 0 fa fd ps (spI K XC (run tbl 0) f) :=
  ⟨fun vs H Q E h => by obtain ⟨F, args, _, h⟩ := h; unfold run at h; exact h.elim, fun A outer s H args us vs Q E hr he hb hv h => by obtain ⟨F, args, _, h⟩ := h; unfold run at h; exact h.elim⟩
end
end PI

end

section
set_option maxRecDepth 100000
set_option maxHeartbeats 1000000
/-! Pi18: all defs of a table. -/
namespace PI
open PySem PySem.Spec PyProof.Rows L2
section
variable {P : Program} {w : World} {K : PySem.W.Frag} {mg : Str → Option Value} {base : Heap} {XC : Str → Value → Prop} {C : Calls} {k : Nat}
def AllAt (P : Program) (w : World) (K : PySem.W.Frag) (mg : Str → Option Value) (base : Heap) (XC : Str → Value → Prop) (C : Calls) (k : Nat) : List Str → Nat → Prop
  | [], _ => True
  | x :: xs, i => DefAt P w K mg base XC C k x i ∧ AllAt P w K mg base XC C k xs (i + 1)
theorem AllAt.get : ∀ {xs : List Str} {n i : Nat} {x : Str}, AllAt P w K mg base XC C k xs n → xs[i]? = some x → DefAt P w K mg base XC C k x (n + i)
  | [], n, i, x, h, e => by simp at e
  | y :: ys, n, 0, x, h, e => by simp at e; subst e; exact h.1
  | y :: ys, n, i + 1, x, h, e => by
    have := AllAt.get (n := n + 1) (i := i) h.2 (by simpa using e)
    rw [show n + (i + 1) = n + 1 + i by omega]; exact this
theorem FnCx.of {names : List Str} (h : AllAt P w K mg base XC C k names 0) : FnCx P w K mg base XC C k names := ⟨fun i x e => by
  have := h.get e
  rw [Nat.zero_add] at this; exact this⟩
end
/-- what the head tells of a def -/
structure DefF (K : PySem.W.Frag) (mg : Str → Option Value) (x : Str) (st : Stmt) (ps : List Str) : Prop where
  ex : ∃ (fa : Addr) (fd : FuncData), FunD K x x (defArgs st) (defBody st) (defScope st) [] [] fa fd ∧ mg x = some (.ref fa) ∧ Binds K fd ps []
section
variable {P : Program} {w : World} {K : PySem.W.Frag} {mg : Str → Option Value} {base : Heap} {XC : Str → Value → Prop} {tbl : List FD} {k f : Nat} {fd' : FD} {x : Str} {st : Stmt} {N ps : List Str}
theorem at_zero (D : DefF K mg x st ps) : DefAt P w K mg base XC (run tbl 0) 0 x f := by
  obtain ⟨fa, fd, F, hm, hb⟩ := D.ex
  exact ⟨fa, fd, ps, def_zero, hm, F.kp, hb⟩
theorem at_succ (D : DefF K mg x st ps) (S : FnScope N ps (defScope st)) (hf : tbl[f]? = some fd') (hnp : fd'.np = ps.length) (hnl : fd'.nl = N.length) (hle : ps.length ≤ N.length) (hpw : ∀ i ∈ fd'.pw, i < fd'.np)
    (hbody : ∀ (fa : Addr) (cdv : Value) (A : Around) (outer : List Env) (s : Shared) (H : Hp) (E : XK), Room k (A.deeper (envOfC x (defScope st) s.heap.objs.size fa cdv)) →
      PSs (cxOf (L2.CX P w) P w K mg base N x (defScope st) fa cdv A outer s H E) (defBody st) (tSs K XC (run tbl k) (fun cls d _ H => E cls d H) fd'.pw fd'.body)) : DefAt P w K mg base XC (run tbl (k + 1)) (k + 1) x f := by
  obtain ⟨fa, fd, F, hm, hb⟩ := D.ex
  exact ⟨fa, fd, ps, def_ok F S hf hnp hnl hle hpw (hbody fa), hm, F.kp, hb⟩
/-- the law's own promise, from the evaluator's answer -/
theorem law_sp {K : PySem.W.Frag} {XC : Str → Value → Prop} {C : Calls} {f : Nat} {H : Hp} {a : Addr} {ns : List Int} {Q : VK} {E : XK} (hS : SqL K H a (ns.map V.int)) {outs : En} (h : C f [.fz (.scr (ns.map D.int))] = .ok (.fz (.bl true)) outs) (q : ∀ H', Q (.bl true) H') : spI K XC C f [.ref a] H Q E := by
  have rep : ∀ (F : Hp) (ns : List Int), RepAll K F (ns.map D.int) (ns.map V.int) := fun F ns => by
    induction ns with
    | nil => exact RepAll.nil
    | cons n ns ih => exact RepAll.cons (by unfold Rep; rfl) ih
  refine ⟨H, [.fz (.scr (ns.map D.int))], ⟨rfl, FLe.refl, fun i r e hr => ?_, fun i j d e a h1 h2 _ _ => ?_⟩, ?_⟩
  · cases i with
    | zero =>
      simp at e; subst e
      exact ⟨.ref a, rfl, a, ns.map V.int, rfl, hS, rep H ns⟩
    | succ i => simp at e
  · cases i with
    | zero => simp at h1
    | succ i => simp at h1
  · rw [h]
    intro _ F' H' v S' x
    have lo : outs.length = 1 := by have := S'.len; simp at this; exact this
    obtain ⟨v', e1, e2⟩ := S'.ent 1 (.fz (.bl true)) (by rw [List.getElem?_append_right (by omega), lo]; rfl) (by simp)
    have ev : v = .bl true := by
      have : v = v' := by simpa using e1
      rw [this]; exact e2
    subst ev
    exact q H'
end
/-- the law's walk from its def's promise: what the defs may raise hangs on the world -/
theorem walk_ofEX {law : PySem.W.OpenLaw} {most lev : Nat} {view : Program} {names : List Str} {Xp : (Str → Option Value) → Heap → Prop} {Yp : World → Heap → Prop} {rec : DefRec} {cx : World → CXT} {par : Str}
    (hm : law.most = some most) (hs : most ≤ sizeLine) (hd : rec.params.defaults = []) (room : Room lev callerA)
    (facts : ∀ (w : World) (mg : Str → Option Value) (fa : Addr) (g : Heap), Yp w g → g.Ns mainGlobals mg → mg rec.name = some (.ref fa) →
      ∃ (K : PySem.W.Frag) (fd : FuncData) (sp : Sp), K.In g ∧ (∀ (z : Shared) (v : Value), BindsTo z fd ⟨[v], []⟩ [(par, v)]) ∧
        (∀ (G : Hp) (a : Addr) (is : List Int), is.length ≤ most → Only G → SqL K G a (is.map V.int) → sp [.ref a] G (fun x _ => x = .bl true) fun _ _ _ => False) ∧
        ∀ ground : Heap, K.In ground → ground.Ns mainGlobals mg → FnOk law.prog w K mg ground (cx w) lev fa fd [par] sp)
    (shut : ∀ (w : World) (G : Hp) (z : Shared) (e : Value) (z' : Shared), cx w [] G z (fun _ _ _ => False) e z' → False) :
    PySem.W.WalkO view names Xp Yp law.row.toRowW rec [] (fun f vs => PySem.call f vs) :=
  Att.attach_call hm hd fun w _ z mg mb fa ob pm cd doc a vs is G Y _ _ _ hmg hobj hints hlen hg =>
    let ⟨_, _, _, kx, hb, hsp, hf⟩ := facts w mg fa _ Y G.T.g hmg
    law_call kx G.T.g G.T.b G.T.builtins G.T.nolimit hg hobj hints (Nat.le_trans hlen hs) room hf hb (fun G1 only hS => hsp G1 a is hlen only hS) fun G1 e z' => shut w G1 z e z'
theorem cx_none {P : Program} {w : World} {H : Hp} {s : Shared} {e : Value} {s' : Shared} (h : L2.CX P w [] H s (fun _ _ _ => False) e s') : False := by
  obtain ⟨_, _, _, _, _, _, _, _, _, _, _, _, z⟩ := h
  exact z
end PI

end

section
set_option maxRecDepth 100000
set_option maxHeartbeats 1000000
/-! PiS: the evaluator's equations, for simp. -/
namespace PI
open PySem.Spec
variable {C : Calls} {pw : List Nat} {e : En}
@[simp] theorem ev_lit {d} : ev C (.lit d) e = .ok (.fz d) e := by rw [ev]
@[simp] theorem ev_con {d} : ev C (.con d) e = .ok (.fz d) e := by rw [ev]
/-- a name's value -/
def nameV (r : Option Ent) (i : Nat) (e : En) : Res Ent :=
  match r with
  | some (.fz d) => .ok (.fz d) e
  | some (.ow d) => .ok (.fz d) (e.set i (.fz d))
  | _ => .no
@[simp] theorem nameV_fz {d i} : nameV (some (.fz d)) i e = .ok (.fz d) e := rfl
@[simp] theorem nameV_ow {d i} : nameV (some (.ow d)) i e = .ok (.fz d) (e.set i (.fz d)) := rfl
@[simp] theorem ev_var {i} : ev C (.var i) e = nameV e[i]? i e := by rw [ev]; rfl
def tupR (ds : List D) (e : En) : Res Ent := if ds.length ≤ PySem.sizeLine then .ok (.fz (.tup ds)) e else .no
def lstR (ds : List D) (e : En) : Res Ent := if ds.length ≤ PySem.sizeLine then .ok (.ow (.lst ds)) e else .no
@[simp] theorem ev_tup {es} : ev C (.tup es) e = (evs C es e).bind tupR := by rw [ev]; rfl
@[simp] theorem ev_lst {es} : ev C (.lst es) e = (evs C es e).bind lstR := by rw [ev]; rfl
@[simp] theorem ev_pn {f es} : ev C (.pn f es) e = (evOs C es e).bind fun xs e => onD f (allD e xs) e := by rw [ev]
@[simp] theorem ev_and {a b} : ev C (.and a b) e = (ev C a e).bind fun r e => (onB r e).bind fun t e => if t = true then ev C b e else .ok r e := by rw [ev]
@[simp] theorem ev_or {a b} : ev C (.or a b) e = (ev C a e).bind fun r e => (onB r e).bind fun t e => if t = true then .ok r e else ev C b e := by rw [ev]
@[simp] theorem ev_not {a} : ev C (.not a) e = (opnd (ev C a) a e).bind fun x e => (onB (x.ent e) e).bind fun b e => .ok (.fz (.bl (!b))) e := by rw [ev]
@[simp] theorem ev_ite {c a b} : ev C (.ite c a b) e = (evT C c e).bind fun t e => if t = true then ev C a e else ev C b e := by rw [ev]
@[simp] theorem ev_chain {f g a b c} : ev C (.chain f g a b c) e = (opnd (ev C a) a e).bind fun x e => (opnd (ev C b) b e).bind fun y e => (onD f (allD e [x, y]) e).bind fun r e => (boolE r e).bind fun t e =>
      if t = true then (opnd (ev C c) c e).bind fun z e => onD g (allD e [y, z]) e else .ok (.fz (.bl false)) e := by rw [ev]
@[simp] theorem ev_call {f ms es} : ev C (.call f ms es) e = (evAs C es ms e).bind fun xs e => callWith C f xs e := by rw [ev]
def compR (own : List Nat) (tg : Tg) (test : En → Res Bool) (elt : En → Res D) (e : En) (o : Option (List D)) : Res Ent :=
  match o with
  | none => .no
  | some xs => (compLoop tg own test elt xs [] e).bind fun ds e' => .ok (.ow (.lst ds)) (backE e e' own)
@[simp] theorem ev_comp {own tg ik ies cs elt} : ev C (.comp own tg ik ies cs elt) e = (evs C ies e).bind fun ds e => compR own tg (evTs C cs) (frozen (ev C elt)) e (ik ds) := by
  rw [ev]; congr 1; try (funext ds e; cases ik ds <;> rfl)
@[simp] theorem compR_some {own tg test elt xs} : compR own tg test elt e (some xs) = (compLoop tg own test elt xs [] e).bind fun ds e' => .ok (.ow (.lst ds)) (backE e e' own) := rfl
def onO {α β : Type} (o : Option α) (f : α → Res β) : Res β :=
  match o with
  | some a => f a
  | none => .no
@[simp] theorem onO_some {α β : Type} {a : α} {f : α → Res β} : onO (some a) f = f a := rfl
@[simp] theorem ev_popL {i} : ev C (.popL i) e = onO (ownL e i) fun ds => popLast i ds e := by rw [ev]; cases ownL e i <;> rfl
@[simp] theorem ev_popA {i ix} : ev C (.popA i ix) e = onO (ownL e i) fun _ => (ev C ix e).bind fun r e => popAt i r e := by rw [ev]; cases ownL e i <;> rfl
@[simp] theorem ev_sl {a lo hi} : ev C (.sl a lo hi) e = (opnd (ev C a) a e).bind fun x e => (evP C lo e).bind fun l e => (evP C hi e).bind fun h e => onSl l h (x.ent e) e := by rw [ev]
@[simp] theorem evP_nil : evP C [] e = .ok none e := by rw [evP]
@[simp] theorem evP_cons {a as} : evP C (a :: as) e = (ev C a e).bind intE := by rw [evP]
@[simp] theorem intE_int {i} : intE (.fz (.int i)) e = .ok (some i) e := rfl
@[simp] theorem onSl_fz {lo hi d} : onSl lo hi (.fz d) e = retE (slD lo hi d) e := rfl
@[simp] theorem onSl_ow {lo hi d} : onSl lo hi (.ow d) e = retE (slD lo hi d) e := rfl
@[simp] theorem slD_tup {lo hi xs} : slD lo hi (.tup xs) = some (.fz (.tup (cutD xs lo hi))) := rfl
@[simp] theorem slD_lst {lo hi xs} : slD lo hi (.lst xs) = some (.ow (.lst (cutD xs lo hi))) := rfl
@[simp] theorem slD_scr {lo hi xs} : slD lo hi (.scr xs) = some (.ow (.lst (cutD xs lo hi))) := rfl
@[simp] theorem evs_nil : evs C [] e = .ok [] e := by rw [evs]
@[simp] theorem evs_cons {a as} : evs C (a :: as) e = (frozen (ev C a) e).bind fun d e => (evs C as e).bind fun ds e => .ok (d :: ds) e := by rw [evs]
@[simp] theorem evOs_nil : evOs C [] e = .ok [] e := by rw [evOs]
@[simp] theorem evOs_cons {a as} : evOs C (a :: as) e = (opnd (ev C a) a e).bind fun x e => (evOs C as e).bind fun xs e => .ok (x :: xs) e := by rw [evOs]
@[simp] theorem evAs_nil {ms} : evAs C [] ms e = .ok [] e := by rw [evAs]
@[simp] theorem evAs_own {a as ms} : evAs C (a :: as) (true :: ms) e = (opnd (ev C a) a e).bind fun x e => (evAs C as ms e).bind fun xs e => .ok (x :: xs) e := by rw [evAs]; rfl
@[simp] theorem evAs_val {a as ms} : evAs C (a :: as) (false :: ms) e = (frozen (ev C a) e).bind fun d e => (evAs C as ms e).bind fun xs e => .ok (.vl (.fz d) :: xs) e := by
  rw [evAs]; simp only [List.headD_cons, List.tail_cons]
  cases frozen (ev C a) e <;> rfl
@[simp] theorem evT_e {a} : evT C (.e a) e = (opnd (ev C a) a e).bind fun x e => onB (x.ent e) e := by rw [evT]
@[simp] theorem evT_and {a b} : evT C (.and a b) e = (evT C a e).bind fun c e => if c = true then evT C b e else .ok false e := by rw [evT]
@[simp] theorem evT_or {a b} : evT C (.or a b) e = (evT C a e).bind fun c e => if c = true then .ok true e else evT C b e := by rw [evT]
@[simp] theorem evT_not {a} : evT C (.not a) e = (evT C a e).bind fun c e => .ok (!c) e := by rw [evT]
@[simp] theorem evTs_nil : evTs C [] e = .ok true e := by rw [evTs]
@[simp] theorem evTs_one {a} : evTs C [a] e = evT C a e := by
  simp only [evTs]
  cases evT C a e with
  | ok b e1 => cases b <;> rfl
  | ex => rfl
  | no => rfl
/-- operands -/
def nameO (r : Option Ent) (i : Nat) (e : En) : Res Opd :=
  match r with
  | some (.fz d) => .ok (.vl (.fz d)) e
  | some (.ow _) => .ok (.sl i) e
  | _ => .no
@[simp] theorem nameO_fz {d i} : nameO (some (.fz d)) i e = .ok (.vl (.fz d)) e := rfl
@[simp] theorem nameO_ow {d i} : nameO (some (.ow d)) i e = .ok (.sl i) e := rfl
@[simp] theorem opnd_var {m i} : opnd m (.var i) e = nameO e[i]? i e := rfl
def toO (r : Ent) (e : En) : Res Opd := .ok (.vl r) e
@[simp] theorem toO_eq {r} : toO r e = .ok (.vl r) e := rfl
@[simp] theorem opnd_lit {m d} : opnd m (.lit d) e = (m e).bind toO := rfl
@[simp] theorem opnd_con {m d} : opnd m (.con d) e = (m e).bind toO := rfl
@[simp] theorem opnd_tup {m d} : opnd m (.tup d) e = (m e).bind toO := rfl
@[simp] theorem opnd_lst {m d} : opnd m (.lst d) e = (m e).bind toO := rfl
@[simp] theorem opnd_pn {m f es} : opnd m (.pn f es) e = (m e).bind toO := rfl
@[simp] theorem opnd_and {m a b} : opnd m (.and a b) e = (m e).bind toO := rfl
@[simp] theorem opnd_or {m a b} : opnd m (.or a b) e = (m e).bind toO := rfl
@[simp] theorem opnd_not {m a} : opnd m (.not a) e = (m e).bind toO := rfl
@[simp] theorem opnd_ite {m a b c} : opnd m (.ite a b c) e = (m e).bind toO := rfl
@[simp] theorem opnd_chain {m f g a b c} : opnd m (.chain f g a b c) e = (m e).bind toO := rfl
@[simp] theorem opnd_call {m f ms es} : opnd m (.call f ms es) e = (m e).bind toO := rfl
@[simp] theorem opnd_comp {m a b c d f g} : opnd m (.comp a b c d f g) e = (m e).bind toO := rfl
@[simp] theorem opnd_popL {m i} : opnd m (.popL i) e = (m e).bind toO := rfl
@[simp] theorem opnd_popA {m i a} : opnd m (.popA i a) e = (m e).bind toO := rfl
@[simp] theorem opnd_sl {m a b c} : opnd m (.sl a b c) e = (m e).bind toO := rfl
@[simp] theorem frozen_eq {m : En → Res Ent} : frozen m e = (m e).bind frz := rfl
@[simp] theorem frz_fz {d} : frz (.fz d) e = .ok d e := rfl
@[simp] theorem frz_ow {d} : frz (.ow d) e = .ok d e := rfl
@[simp] theorem bind_ok {α β : Type} {a : α} {f : α → En → Res β} : (Res.ok a e).bind f = f a e := rfl
@[simp] theorem bind_no {α β : Type} {f : α → En → Res β} : (Res.no : Res α).bind f = .no := rfl
@[simp] theorem bind_ex {α β : Type} {c ps} {f : α → En → Res β} : (Res.ex c ps e : Res α).bind f = .ex c ps e := rfl
@[simp] theorem sr_ok {α : Type} {a : α} {f : α → En → SR} : (Res.ok a e).sr f = f a e := rfl
@[simp] theorem sr_ex {α : Type} {c ps} {f : α → En → SR} : (Res.ex c ps e : Res α).sr f = .ex c ps e := rfl
@[simp] theorem ent_sl {i} : Opd.ent e (.sl i) = (e[i]?).getD .un := rfl
@[simp] theorem ent_vl {r} : Opd.ent e (.vl r) = r := rfl
@[simp] theorem d_fz {d} : Ent.d (.fz d) = some d := rfl
@[simp] theorem d_ow {d} : Ent.d (.ow d) = some d := rfl
@[simp] theorem allD_nil : allD e [] = some [] := rfl
def consD (a : Option D) (b : Option (List D)) : Option (List D) :=
  match a, b with
  | some d, some ds => some (d :: ds)
  | _, _ => none
@[simp] theorem consD_some {d ds} : consD (some d) (some ds) = some (d :: ds) := rfl
@[simp] theorem allD_cons {x xs} : allD e (x :: xs) = consD (x.ent e).d (allD e xs) := rfl
@[simp] theorem onD_some {f ds} : onD f (some ds) e = retE (f ds) e := rfl
@[simp] theorem retE_fz {d} : retE (some (.fz d)) e = .ok (.fz d) e := rfl
@[simp] theorem retE_ow {d} : retE (some (.ow d)) e = .ok (.ow d) e := rfl
def boolR (o : Option Bool) (e : En) : Res Bool :=
  match o with
  | some b => .ok b e
  | none => .no
@[simp] theorem boolR_some {b} : boolR (some b) e = .ok b e := rfl
@[simp] theorem onB_fz {d} : onB (.fz d) e = boolR (truth d) e := by simp [onB, boolR] <;> rfl
@[simp] theorem onB_ow {d} : onB (.ow d) e = boolR (truth d) e := by simp [onB, boolR] <;> rfl
@[simp] theorem boolE_bl {b} : boolE (.fz (.bl b)) e = .ok b e := rfl
@[simp] theorem truth_bl {b} : truth (.bl b) = some b := rfl
@[simp] theorem truth_non : truth .non = some false := rfl
@[simp] theorem truth_int {i} : truth (.int i) = some (i != 0) := rfl
@[simp] theorem truth_tup {xs} : truth (.tup xs) = some (!xs.isEmpty) := rfl
@[simp] theorem truth_lst {xs} : truth (.lst xs) = some (!xs.isEmpty) := rfl
@[simp] theorem slots_nil : slots [] = [] := rfl
@[simp] theorem slots_sl {i xs} : slots (.sl i :: xs) = i :: slots xs := rfl
@[simp] theorem slots_vl {r xs} : slots (.vl r :: xs) = slots xs := rfl
@[simp] theorem putBack_nil {os} : putBack [] os e = e := by cases os <;> rfl
@[simp] theorem putBack_sl {i xs o os} : putBack (.sl i :: xs) (o :: os) e = putBack xs os (e.set i o) := rfl
@[simp] theorem putBack_vl {r xs o os} : putBack (.vl r :: xs) (o :: os) e = putBack xs os e := rfl
@[simp] theorem putBack_none {x xs} : putBack (x :: xs) [] e = e := rfl
def callR (xs : List Opd) (e : En) : CRes → Res Ent
  | .ok r outs => .ok r (putBack xs outs e)
  | .ex c ps outs => .ex c ps (putBack xs outs e)
  | .no => .no
@[simp] theorem callR_ok {xs r outs} : callR xs e (.ok r outs) = .ok r (putBack xs outs e) := rfl
@[simp] theorem callR_ex {xs c ps outs} : callR xs e (.ex c ps outs) = .ex c ps (putBack xs outs e) := rfl
@[simp] theorem callWith_eq {f xs} : callWith C f xs e = if (slots xs).Nodup then callR xs e (C f (xs.map (Opd.ent e))) else .no := by
  unfold callWith callR
  rfl
@[simp] theorem wipeE_nil : wipeE e [] = e := rfl
@[simp] theorem wipeE_cons {i is} : wipeE e (i :: is) = (wipeE e is).set i .un := rfl
@[simp] theorem backE_nil {e0} : backE e0 e [] = e := rfl
@[simp] theorem backE_cons {e0 i is} : backE e0 e (i :: is) = (backE e0 e is).set i ((e0[i]?).getD .un) := rfl
@[simp] theorem ownL_eq {i} : ownL e i = (match e[i]? with | some (.ow (.lst ds)) => some ds | _ => none) := rfl
@[simp] theorem compLoop_nil {tg own t m acc} : compLoop tg own t m [] acc e = .ok acc e := rfl
@[simp] theorem asg_nm {i d} : Tg.asg pw (.nm i) d e = if i ∈ pw then none else some (e.set i (.fz d)) := by rw [Tg.asg]
@[simp] theorem asg_tp {ts ds} : Tg.asg pw (.tp ts) (.tup ds) e = Tg.asgs pw ts ds e := by rw [Tg.asg]
@[simp] theorem asgs_nil : Tg.asgs pw [] [] e = some e := by rw [Tg.asgs]
def asgN (pw : List Nat) (ts : List Tg) (ds : List D) : Option En → Option En
  | some e => Tg.asgs pw ts ds e
  | none => none
@[simp] theorem asgN_some {ts ds} : asgN pw ts ds (some e) = Tg.asgs pw ts ds e := rfl
@[simp] theorem asgs_cons {t ts d ds} : Tg.asgs pw (t :: ts) (d :: ds) e = asgN pw ts ds (Tg.asg pw t d e) := by rw [Tg.asgs]; rfl
/-! statements -/
@[simp] theorem exec_expr {a} : exec C pw (.expr a) e = (ev C a e).sr fun _ e => .nx e := by rw [exec]
@[simp] theorem exec_set {i a} : exec C pw (.set i a) e = (ev C a e).sr fun r e => if i ∈ pw then .no else .nx (e.set i r) := by rw [exec]
@[simp] theorem exec_unp {ts a} : exec C pw (.unp ts a) e = (frozen (ev C a) e).sr fun d e => SR.opt (Tg.asg pw (.tp ts) d e) := by
  rw [exec]; congr 1; try (funext d e; cases Tg.asg pw (.tp ts) d e <;> rfl)
@[simp] theorem opt_some : SR.opt (some e) = .nx e := rfl
@[simp] theorem exec_par {i j a b} : exec C pw (.par i j a b) e = (ev C a e).sr fun r e => (ev C b e).sr fun u e => if i ∈ pw ∨ j ∈ pw then .no else .nx ((e.set i r).set j u) := by rw [exec]
def onS {α : Type} (o : Option α) (f : α → SR) : SR :=
  match o with
  | some a => f a
  | none => .no
@[simp] theorem onS_some {α : Type} {a : α} {f : α → SR} : onS (some a) f = f a := rfl
@[simp] theorem exec_app {i a} : exec C pw (.app i a) e = onS (ownL e i) fun _ => (frozen (ev C a) e).sr fun d e => SR.opt (appL i d e) := by rw [exec]; cases ownL e i <;> rfl
@[simp] theorem exec_ext {i a} : exec C pw (.ext i a) e = onS (ownL e i) fun _ => (frozen (ev C a) e).sr fun d e => SR.opt (extL i d e) := by rw [exec]; cases ownL e i <;> rfl
@[simp] theorem exec_sti {i ix a} : exec C pw (.sti i ix a) e = (frozen (ev C a) e).sr fun d e => onS (ownL e i) fun _ => (ev C ix e).sr fun r e => SR.opt (stiL i d r e) := by
  rw [exec]; congr 1; funext d e; cases ownL e i <;> rfl
@[simp] theorem exec_ite {c p q} : exec C pw (.ite c p q) e = (evT C c e).sr fun t e => if t = true then execs C pw p e else execs C pw q e := by rw [exec]
@[simp] theorem exec_for {tg ik ies b} : exec C pw (.for_ tg ik ies b) e = (evs C ies e).sr fun ds e => onS (ik ds) fun xs => forLoop pw tg (execs C pw b) xs e := by
  rw [exec]; congr 1; funext ds e; cases ik ds <;> rfl
@[simp] theorem exec_whl {c b} : exec C pw (.whl c b) e = whlLoop (evT C c) (execs C pw b) whlFuel e := by rw [exec]
def retV (r : Option Ent) (i : Nat) (e : En) : SR :=
  match r with
  | some (.fz d) => .rt (.fz d) e
  | some (.ow d) => .rt (.ow d) (e.set i .un)
  | _ => .no
@[simp] theorem retV_fz {d i} : retV (some (.fz d)) i e = .rt (.fz d) e := rfl
@[simp] theorem retV_ow {d i} : retV (some (.ow d)) i e = .rt (.ow d) (e.set i .un) := rfl
@[simp] theorem exec_retV {i} : exec C pw (.ret (.var i)) e = retV e[i]? i e := by rw [exec]; rfl
theorem exec_ret {a} (h : isVar a = none) : exec C pw (.ret a) e = (ev C a e).sr fun r e => .rt r e := by rw [exec, h]
@[simp] theorem exec_ret_lit {d} : exec C pw (.ret (.lit d)) e = .rt (.fz d) e := by rw [exec_ret rfl]; simp
@[simp] theorem exec_ret_con {d} : exec C pw (.ret (.con d)) e = .rt (.fz d) e := by rw [exec_ret rfl]; simp
@[simp] theorem exec_ret_tup {a} : exec C pw (.ret (.tup a)) e = (ev C (.tup a) e).sr fun r e => .rt r e := exec_ret rfl
@[simp] theorem exec_ret_lst {a} : exec C pw (.ret (.lst a)) e = (ev C (.lst a) e).sr fun r e => .rt r e := exec_ret rfl
@[simp] theorem exec_ret_pn {f a} : exec C pw (.ret (.pn f a)) e = (ev C (.pn f a) e).sr fun r e => .rt r e := exec_ret rfl
@[simp] theorem exec_ret_and {a b} : exec C pw (.ret (.and a b)) e = (ev C (.and a b) e).sr fun r e => .rt r e := exec_ret rfl
@[simp] theorem exec_ret_or {a b} : exec C pw (.ret (.or a b)) e = (ev C (.or a b) e).sr fun r e => .rt r e := exec_ret rfl
@[simp] theorem exec_ret_not {a} : exec C pw (.ret (.not a)) e = (ev C (.not a) e).sr fun r e => .rt r e := exec_ret rfl
@[simp] theorem exec_ret_ite {a b c} : exec C pw (.ret (.ite a b c)) e = (ev C (.ite a b c) e).sr fun r e => .rt r e := exec_ret rfl
@[simp] theorem exec_ret_chain {f g a b c} : exec C pw (.ret (.chain f g a b c)) e = (ev C (.chain f g a b c) e).sr fun r e => .rt r e := exec_ret rfl
@[simp] theorem exec_ret_call {f a b} : exec C pw (.ret (.call f a b)) e = (ev C (.call f a b) e).sr fun r e => .rt r e := exec_ret rfl
@[simp] theorem exec_ret_comp {a b c d f g} : exec C pw (.ret (.comp a b c d f g)) e = (ev C (.comp a b c d f g) e).sr fun r e => .rt r e := exec_ret rfl
@[simp] theorem exec_ret_sl {a b c} : exec C pw (.ret (.sl a b c)) e = (ev C (.sl a b c) e).sr fun r e => .rt r e := exec_ret rfl
@[simp] theorem exec_ret_popL {a} : exec C pw (.ret (.popL a)) e = (ev C (.popL a) e).sr fun r e => .rt r e := exec_ret rfl
@[simp] theorem exec_ret_popA {a b} : exec C pw (.ret (.popA a b)) e = (ev C (.popA a b) e).sr fun r e => .rt r e := exec_ret rfl
@[simp] theorem exec_retN : exec C pw .retN e = .rt (.fz .non) e := by rw [exec]
@[simp] theorem exec_pass : exec C pw .pass e = .nx e := by rw [exec]
@[simp] theorem exec_brk : exec C pw .brk e = .bk e := by rw [exec]
@[simp] theorem exec_cont : exec C pw .cont e = .ct e := by rw [exec]
@[simp] theorem exec_rse {c es} : exec C pw (.rse c es) e = (evs C es e).sr fun ds e => .ex c ds e := by rw [exec]
@[simp] theorem execs_nil : execs C pw [] e = .nx e := by rw [execs]
def thenS (r : SR) (k : En → SR) : SR :=
  match r with
  | .nx e => k e
  | r => r
@[simp] theorem thenS_nx {k} : thenS (.nx e) k = k e := rfl
@[simp] theorem thenS_rt {r k} : thenS (.rt r e) k = .rt r e := rfl
@[simp] theorem thenS_bk {k} : thenS (.bk e) k = .bk e := rfl
@[simp] theorem thenS_ct {k} : thenS (.ct e) k = .ct e := rfl
@[simp] theorem thenS_ex {c ps k} : thenS (.ex c ps e) k = .ex c ps e := rfl
@[simp] theorem execs_cons {s ss} : execs C pw (s :: ss) e = thenS (exec C pw s e) (execs C pw ss) := by
  rw [execs]; cases exec C pw s e <;> rfl
@[simp] theorem forLoop_nil {tg b} : forLoop pw tg b [] e = .nx e := rfl
def turnN (b : En → SR) (k : En → SR) : Option En → SR
  | some e => turn (b e) k
  | none => .no
@[simp] theorem turnN_some {b k} : turnN b k (some e) = turn (b e) k := rfl
@[simp] theorem forLoop_cons {tg b x xs} : forLoop pw tg b (x :: xs) e = turnN b (forLoop pw tg b xs) (Tg.asg pw tg x e) := by
  rw [forLoop]; cases Tg.asg pw tg x e <;> rfl
@[simp] theorem turn_nx {k} : turn (.nx e) k = k e := rfl
@[simp] theorem turn_ct {k} : turn (.ct e) k = k e := rfl
@[simp] theorem turn_bk {k} : turn (.bk e) k = .nx e := rfl
@[simp] theorem turn_rt {r k} : turn (.rt r e) k = .rt r e := rfl
@[simp] theorem turn_ex {c ps k} : turn (.ex c ps e) k = .ex c ps e := rfl
@[simp] theorem finish_nx {fd} : finish fd (.nx e) = .ok (.fz .non) (outsOf fd e) := rfl
@[simp] theorem finish_rt {fd r} : finish fd (.rt r e) = .ok r (outsOf fd e) := rfl
@[simp] theorem finish_ex {fd c ps} : finish fd (.ex c ps e) = .ex c ps (outsOf fd e) := rfl
/-! prims -/
@[simp] theorem padd_int {a b} : padd [.int a, .int b] = some (.fz (.int (a + b))) := rfl
@[simp] theorem psub_int {a b} : psub [.int a, .int b] = some (.fz (.int (a - b))) := rfl
@[simp] theorem pmod_int {a b} (h : b ≠ 0) : pmod [.int a, .int b] = some (.fz (.int (a.fmod b))) := if_pos h
@[simp] theorem pfdiv_int {a b} (h : b ≠ 0) (h2 : b.natAbs < 1073741824) : pfdiv [.int a, .int b] = some (.fz (.int (a.fdiv b))) := if_pos ⟨h, h2⟩
theorem pmul_int {a b} (h : L2.CMul a b) : pmul [.int a, .int b] = some (.fz (.int (a * b))) := if_pos (cmulB_iff.mpr h)
@[simp] theorem plt_int {a b} : plt [.int a, .int b] = some (.fz (.bl (decide (a < b)))) := rfl
@[simp] theorem ple_int {a b} : ple [.int a, .int b] = some (.fz (.bl (decide (a ≤ b)))) := rfl
@[simp] theorem pgt_int {a b} : pgt [.int a, .int b] = some (.fz (.bl (decide (b < a)))) := rfl
@[simp] theorem pge_int {a b} : pge [.int a, .int b] = some (.fz (.bl (decide (b ≤ a)))) := rfl
@[simp] theorem pint_int {a} : pint [.int a] = some (.fz (.int a)) := rfl
@[simp] theorem pint_bl {b} : pint [.bl b] = some (.fz (.int (if b then 1 else 0))) := rfl
@[simp] theorem pneg_int {a} : pneg [.int a] = some (.fz (.int (-a))) := rfl
@[simp] theorem pabs_int {a} : pabs [.int a] = some (.fz (.int (if a < 0 then -a else a))) := rfl
@[simp] theorem pmin2_int {a b} : pmin2 [.int a, .int b] = some (.fz (.int (if b < a then b else a))) := rfl
@[simp] theorem pmax2_int {a b} : pmax2 [.int a, .int b] = some (.fz (.int (if b > a then b else a))) := rfl
@[simp] theorem plen_tup {xs} : plen [.tup xs] = some (.fz (.int xs.length)) := rfl
@[simp] theorem plen_lst {xs} : plen [.lst xs] = some (.fz (.int xs.length)) := rfl
@[simp] theorem plen_scr {xs} : plen [.scr xs] = some (.fz (.int xs.length)) := rfl
@[simp] theorem ptuple_lst {xs} : ptuple [.lst xs] = some (.fz (.tup xs)) := rfl
@[simp] theorem ptuple_tup {xs} : ptuple [.tup xs] = some (.fz (.tup xs)) := rfl
@[simp] theorem plist_lst {xs} : plist [.lst xs] = some (.ow (.lst xs)) := rfl
@[simp] theorem plist_tup {xs} : plist [.tup xs] = some (.ow (.lst xs)) := rfl
@[simp] theorem pisN_eq {a} : pisN [a, .non] = some (.fz (.bl a.isN)) := rfl
@[simp] theorem pnotN_eq {a} : pnotN [a, .non] = some (.fz (.bl (!a.isN))) := rfl
@[simp] theorem pisi_eq {cs a} : pisi cs [a] = a.cl.map fun c => .fz (.bl (cs.any fun k => isC c k)) := rfl
@[simp] theorem pidx_tup {xs i} : pidx [.tup xs, .int i] = (L2.atI xs i).map .fz := rfl
@[simp] theorem pidx_lst {xs i} : pidx [.lst xs, .int i] = (L2.atI xs i).map .fz := rfl
@[simp] theorem pidx_scr {xs i} : pidx [.scr xs, .int i] = (L2.atI xs i).map .fz := rfl
@[simp] theorem atI_nat {α : Type} {xs : List α} {n : Nat} : L2.atI xs (n : Int) = xs[n]? := by
  unfold L2.atI L2.ixN
  by_cases h : n < xs.length
  · simp [h]
  · simp [h]
@[simp] theorem atI_0 {α : Type} {xs : List α} : L2.atI xs (0 : Int) = xs[0]? := atI_nat (n := 0)
@[simp] theorem atI_1 {α : Type} {xs : List α} : L2.atI xs (1 : Int) = xs[1]? := atI_nat (n := 1)
@[simp] theorem atI_2 {α : Type} {xs : List α} : L2.atI xs (2 : Int) = xs[2]? := atI_nat (n := 2)
@[simp] theorem atI_3 {α : Type} {xs : List α} : L2.atI xs (3 : Int) = xs[3]? := atI_nat (n := 3)
@[simp] theorem atI_4 {α : Type} {xs : List α} : L2.atI xs (4 : Int) = xs[4]? := atI_nat (n := 4)
@[simp] theorem atI_5 {α : Type} {xs : List α} : L2.atI xs (5 : Int) = xs[5]? := atI_nat (n := 5)
@[simp] theorem atI_6 {α : Type} {xs : List α} : L2.atI xs (6 : Int) = xs[6]? := atI_nat (n := 6)
@[simp] theorem atI_7 {α : Type} {xs : List α} : L2.atI xs (7 : Int) = xs[7]? := atI_nat (n := 7)
@[simp] theorem atI_neg1 {α : Type} {xs : List α} : L2.atI xs (-1 : Int) = xs[xs.length - 1]? := by
  unfold L2.atI L2.ixN
  cases xs with
  | nil => rfl
  | cons x r =>
    have h : (-((x :: r).length : Int)) ≤ -1 := by simp; omega
    have h2 : ((-1 : Int) + ((x :: r).length : Int)).toNat = (x :: r).length - 1 := by simp; omega
    rw [if_neg (by decide), if_pos h]
    simp only [Option.bind_some, h2]
@[simp] theorem ixN_nat {n m : Nat} (h : m < n) : L2.ixN n (m : Int) = some m := by
  unfold L2.ixN; simp [h]
@[simp] theorem ixN_0 {m : Nat} (h : 0 < m) : L2.ixN m (0 : Int) = some 0 := ixN_nat h
@[simp] theorem ixN_1 {m : Nat} (h : 1 < m) : L2.ixN m (1 : Int) = some 1 := ixN_nat h
@[simp] theorem ixN_2 {m : Nat} (h : 2 < m) : L2.ixN m (2 : Int) = some 2 := ixN_nat h
@[simp] theorem ixN_3 {m : Nat} (h : 3 < m) : L2.ixN m (3 : Int) = some 3 := ixN_nat h
@[simp] theorem ixN_4 {m : Nat} (h : 4 < m) : L2.ixN m (4 : Int) = some 4 := ixN_nat h
@[simp] theorem getElem?_0 {α : Type} {x : α} {xs : List α} : (x :: xs)[0]? = some x := rfl
@[simp] theorem getElem?_s {α : Type} {x : α} {xs : List α} {n : Nat} : (x :: xs)[n + 1]? = xs[n]? := rfl
end PI

end

section
set_option maxRecDepth 100000
set_option maxHeartbeats 1000000
/-! PiL: loops by invariants. -/
namespace PI
theorem szl : PySem.sizeLine = 16777216 := by rfl
/-! ### comprehensions -/
theorem backE_same {e e' : En} : ∀ {own : List Nat}, e'.length = e.length → (∀ i, i ∉ own → e'[i]? = e[i]?) → backE e e' own = e := fun {own} hl h => by
  apply List.ext_getElem?
  intro i
  by_cases hi : i < e.length
  · have : ∀ (is : List Nat), (backE e e' is)[i]? = if i ∈ is then e[i]? else e'[i]? := by
      intro is
      induction is with
      | nil => simp
      | cons k is ih =>
        unfold backE
        by_cases hk : k = i
        · subst hk
          rw [List.getElem?_set_self (by rw [backE_length]; omega)]
          rw [List.getElem?_eq_getElem hi]
          simp
        · rw [List.getElem?_set_ne hk, ih]
          have : (i ∈ k :: is) ↔ i ∈ is := by simp [Ne.symm hk]
          simp [this]
    rw [this]
    split
    · rfl
    · exact h i (by assumption)
  · rw [List.getElem?_eq_none (by rw [backE_length]; omega), List.getElem?_eq_none (by omega)]
theorem wipe_eq {e e' : En} {own : List Nat} (h : wipeE e' own = wipeE e own) : e'.length = e.length ∧ ∀ i, i ∉ own → e'[i]? = e[i]? := by
  constructor
  · have := congrArg List.length h
    simpa [wipeE_length] using this
  · intro i hi
    have := congrArg (fun l => l[i]?) h
    simpa [wipeE_get' hi] using this
/-- a comprehension without side effects -/
theorem compLoop_map {tg : Tg} {own : List Nat} {t : En → Res Bool} {m : En → Res D} {e : En} {p : D → Bool} {f : D → D} : ∀ {xs acc : List D} {e0 : En}, wipeE e0 own = wipeE e own →
    (∀ x ∈ xs, ∃ e1, Tg.asg [] tg x (wipeE e own) = some e1 ∧ t e1 = .ok (p x) e1 ∧ (p x = true → m e1 = .ok (f x) e1) ∧ wipeE e1 own = wipeE e own) → acc.length + xs.length ≤ PySem.sizeLine →
    ∃ e', compLoop tg own t m xs acc e0 = .ok (acc ++ (xs.filter p).map f) e' ∧ wipeE e' own = wipeE e own
  | [], acc, e0, h0, _, _ => ⟨e0, by simp, h0⟩
  | x :: xs, acc, e0, h0, h, hl => by
    obtain ⟨e1, h1, h2, h3, h4⟩ := h x (by simp)
    have hl' : acc.length + xs.length + 1 ≤ PySem.sizeLine := by simpa [Nat.add_assoc] using hl
    unfold compLoop
    rw [h0, h1]
    dsimp only
    rw [h2]
    cases q : p x with
    | true =>
      dsimp only
      rw [h3 q]
      dsimp only
      rw [if_pos (by omega)]
      obtain ⟨e', q1, q2⟩ := compLoop_map (xs := xs) (acc := acc ++ [f x]) h4 (fun y hy => h y (by simp [hy])) (by simp; omega)
      exact ⟨e', by rw [q1]; simp [q], q2⟩
    | false =>
      dsimp only
      obtain ⟨e', q1, q2⟩ := compLoop_map (xs := xs) (acc := acc) h4 (fun y hy => h y (by simp [hy])) (by omega)
      exact ⟨e', by rw [q1]; simp [q], q2⟩
theorem comp_map {tg : Tg} {own : List Nat} {t : En → Res Bool} {m : En → Res D} {e : En} (p : D → Bool) (f : D → D) {xs : List D} (h : ∀ x ∈ xs, ∃ e1, Tg.asg [] tg x (wipeE e own) = some e1 ∧ t e1 = .ok (p x) e1 ∧ (p x = true → m e1 = .ok (f x) e1) ∧ wipeE e1 own = wipeE e own) (hl : xs.length ≤ PySem.sizeLine) :
    compR own tg t m e (some xs) = .ok (.ow (.lst ((xs.filter p).map f))) e := by
  obtain ⟨e', h1, h2⟩ := compLoop_map (acc := []) (e0 := e) rfl h (by simpa using hl)
  obtain ⟨h3, h4⟩ := wipe_eq h2
  rw [compR_some, h1]
  simp only [bind_ok, List.nil_append]
  rw [backE_same h3 h4]
theorem filter_true {α : Type} (xs : List α) : xs.filter (fun _ => true) = xs := by simp
/-- .. without a test -/
theorem comp_map1 {tg : Tg} {own : List Nat} {C : Calls} {m : En → Res D} {e : En} (f : D → D) {xs : List D} (h : ∀ x ∈ xs, ∃ e1, Tg.asg [] tg x (wipeE e own) = some e1 ∧ m e1 = .ok (f x) e1 ∧ wipeE e1 own = wipeE e own) (hl : xs.length ≤ PySem.sizeLine) :
    compR own tg (evTs C []) m e (some xs) = .ok (.ow (.lst (xs.map f))) e := by
  rw [comp_map (fun _ => true) f (fun x hx => ?_) hl, filter_true]
  obtain ⟨e1, h1, h2, h3⟩ := h x hx
  exact ⟨e1, h1, by simp, fun _ => h2, h3⟩
/-- a comprehension by an invariant -/
theorem compLoop_inv {tg : Tg} {own : List Nat} {t : En → Res Bool} {m : En → Res D} (I : List D → List D → En → Prop)
    (h : ∀ x xs acc e, I (x :: xs) acc e → ∃ e1, Tg.asg [] tg x (wipeE e own) = some e1 ∧ ((∃ e2, t e1 = .ok false e2 ∧ I xs acc e2) ∨ ∃ e2 d e3, t e1 = .ok true e2 ∧ m e2 = .ok d e3 ∧ acc.length < PySem.sizeLine ∧ I xs (acc ++ [d]) e3)) :
    ∀ {xs acc e}, I xs acc e → ∃ ds e', compLoop tg own t m xs acc e = .ok ds e' ∧ I [] ds e'
  | [], acc, e, h0 => ⟨acc, e, rfl, h0⟩
  | x :: xs, acc, e, h0 => by
    obtain ⟨e1, h1, h2⟩ := h x xs acc e h0
    unfold compLoop
    rw [h1]
    dsimp only
    rcases h2 with ⟨e2, h2, h3⟩ | ⟨e2, d, e3, h2, h3, h4, h5⟩
    · rw [h2]
      exact compLoop_inv I h h3
    · rw [h2]
      dsimp only
      rw [h3]
      dsimp only
      rw [if_pos h4]
      exact compLoop_inv I h h5
/-! ### for -/
theorem forLoop_inv {pw : List Nat} {tg : Tg} {b : En → SR} (I : List D → En → Prop) (h : ∀ x xs e, I (x :: xs) e → ∃ e1, Tg.asg pw tg x e = some e1 ∧ ∃ e2, (b e1 = .nx e2 ∨ b e1 = .ct e2) ∧ I xs e2) :
    ∀ {xs e}, I xs e → ∃ e', forLoop pw tg b xs e = .nx e' ∧ I [] e'
  | [], e, h0 => ⟨e, rfl, h0⟩
  | x :: xs, e, h0 => by
    obtain ⟨e1, h1, e2, h2, h3⟩ := h x xs e h0
    rw [forLoop_cons, h1, turnN_some]
    obtain ⟨e', h4, h5⟩ := forLoop_inv I h h3
    rcases h2 with h2 | h2 <;> rw [h2] <;> exact ⟨e', h4, h5⟩
/-- a for that may return -/
theorem forLoop_ret {pw : List Nat} {tg : Tg} {b : En → SR} (I : List D → En → Prop) (R : Ent → En → Prop) (h : ∀ x xs e, I (x :: xs) e → ∃ e1, Tg.asg pw tg x e = some e1 ∧ ((∃ e2, (b e1 = .nx e2 ∨ b e1 = .ct e2) ∧ I xs e2) ∨ ∃ r e2, b e1 = .rt r e2 ∧ R r e2)) :
    ∀ {xs e}, I xs e → (∃ e', forLoop pw tg b xs e = .nx e' ∧ I [] e') ∨ ∃ r e', forLoop pw tg b xs e = .rt r e' ∧ R r e'
  | [], e, h0 => .inl ⟨e, rfl, h0⟩
  | x :: xs, e, h0 => by
    obtain ⟨e1, h1, h2⟩ := h x xs e h0
    rw [forLoop_cons, h1, turnN_some]
    rcases h2 with ⟨e2, h2, h3⟩ | ⟨r, e2, h2, h3⟩
    · rcases h2 with h2 | h2 <;> rw [h2] <;> exact forLoop_ret I R h h3
    · rw [h2]; exact .inr ⟨r, e2, rfl, h3⟩
theorem run_def {tbl : List FD} {i : Nat} {fd : FD} {k : Nat} {args : List Ent} (h : tbl[i]? = some fd) (hl : args.length = fd.np) : run tbl (k + 1) i args = finish fd (execs (run tbl k) fd.pw fd.body (args ++ List.replicate (fd.nl - fd.np) .un)) := by
  rw [run, h]; dsimp only; rw [if_pos hl]
/-! ### data -/
mutual
/-- plain data of a depth -/
def plainD : Nat → D → Bool
  | _, .non => true
  | _, .bl _ => true
  | _, .int _ => true
  | _, .str x => PySem.PyData.canLay0 (.str x)
  | 0, _ => false
  | n + 1, .tup xs => decide (xs.length ≤ PySem.sizeLine) && plains n xs
  | n + 1, .lst xs => decide (xs.length ≤ PySem.sizeLine) && plains n xs
  | _, _ => false
def plains : Nat → List D → Bool
  | _, [] => true
  | n, x :: xs => plainD n x && plains n xs
end
end PI

end

section
set_option maxRecDepth 100000
set_option maxHeartbeats 1000000
/-! PiC: what all laws share: draws, sameness, lists for tuples. -/
namespace PI
open PySem (Str PyData)
/-! ### equality of scalars -/
@[simp] theorem peq_int {a b : Int} : peq [.int a, .int b] = some (.fz (.bl (a == b))) := by simp [peq, eqOk, D.toPy, PyData.canLay0, PyData.depth, PyData.eqv]
@[simp] theorem peq_bl {a b : Bool} : peq [.bl a, .bl b] = some (.fz (.bl (a == b))) := by simp [peq, eqOk, D.toPy, PyData.canLay0, PyData.depth, PyData.eqv]
@[simp] theorem pne_int {a b : Int} : pne [.int a, .int b] = some (.fz (.bl (!(a == b)))) := by simp [pne, eqOk, D.toPy, PyData.canLay0, PyData.depth, PyData.eqv]
@[simp] theorem pne_bl {a b : Bool} : pne [.bl a, .bl b] = some (.fz (.bl (!(a == b)))) := by simp [pne, eqOk, D.toPy, PyData.canLay0, PyData.depth, PyData.eqv]
theorem peq_str {a b : Str} (h : PyData.canLay0 (.str a) = true) (h2 : PyData.canLay0 (.str b) = true) : peq [.str a, .str b] = some (.fz (.bl (a == b))) := by
  simp [peq, eqOk, D.toPy, h, h2, PyData.depth, PyData.eqv]
theorem pne_str {a b : Str} (h : PyData.canLay0 (.str a) = true) (h2 : PyData.canLay0 (.str b) = true) : pne [.str a, .str b] = some (.fz (.bl (!(a == b)))) := by
  simp [pne, eqOk, D.toPy, h, h2, PyData.depth, PyData.eqv]
@[simp] theorem plain_tup {n : Nat} {xs : List D} : plainD (n + 1) (.tup xs) = (decide (xs.length ≤ PySem.sizeLine) && plains n xs) := by rw [plainD]
@[simp] theorem plain_lst {n : Nat} {xs : List D} : plainD (n + 1) (.lst xs) = (decide (xs.length ≤ PySem.sizeLine) && plains n xs) := by rw [plainD]
@[simp] theorem plain_int {n : Nat} {i : Int} : plainD n (.int i) = true := by cases n <;> rw [plainD]
@[simp] theorem plain_bl {n : Nat} {b : Bool} : plainD n (.bl b) = true := by cases n <;> rw [plainD]
@[simp] theorem plain_non {n : Nat} : plainD n .non = true := by cases n <;> rw [plainD]
@[simp] theorem plain_str {n : Nat} {x : Str} : plainD n (.str x) = PyData.canLay0 (.str x) := by cases n <;> rw [plainD]
theorem plains_iff {n : Nat} : ∀ {xs : List D}, plains n xs = true ↔ ∀ x ∈ xs, plainD n x = true
  | [] => by simp [plains]
  | x :: xs => by simp [plains, plains_iff (xs := xs)]
theorem bools_map {α : Type} {f : α → D} {g : α → Bool} : ∀ {xs : List α}, (∀ x ∈ xs, f x = .bl (g x)) → bools (xs.map f) = some (xs.map g)
  | [], _ => rfl
  | x :: xs, h => by
    rw [List.map_cons, h x (by simp)]
    show (bools (xs.map f)).map _ = _
    rw [bools_map fun y hy => h y (by simp [hy])]
    rfl
@[simp] theorem pall_eq {xs : List D} : pall [.lst xs] = (bools xs).map fun bs => .fz (.bl (bs.all id)) := rfl
@[simp] theorem pany_eq {xs : List D} : pany [.lst xs] = (bools xs).map fun bs => .fz (.bl (bs.any id)) := rfl
@[simp] theorem ikVal_lst {xs : List D} : ikVal [.lst xs] = some xs := rfl
@[simp] theorem ikVal_tup {xs : List D} : ikVal [.tup xs] = some xs := rfl
@[simp] theorem ikZip_lst {xs ys : List D} : ikZip [.lst xs, .lst ys] = some (zipD xs ys) := rfl
@[simp] theorem ikZip_tup {xs ys : List D} : ikZip [.tup xs, .tup ys] = some (zipD xs ys) := rfl
@[simp] theorem ikEnum_lst {xs : List D} : ikEnum [.lst xs] = some (enumD 0 xs) := rfl
theorem ikRange1_int {j : Int} (h : -1000000000 ≤ j) (h2 : j ≤ 1000000000) : ikRange1 [.int j] = some (rangeD 0 j.toNat) := by
  show (if _ then _ else _) = _
  rw [if_pos (by omega)]
theorem ikRange2_int {i j : Int} (h : -1000000000 ≤ i) (h2 : i ≤ 1000000000) (h3 : -1000000000 ≤ j) (h4 : j ≤ 1000000000) : ikRange2 [.int i, .int j] = some (rangeD i (j - i).toNat) := by
  show (if _ then _ else _) = _
  rw [if_pos ⟨by omega, by omega⟩]
@[simp] theorem outs2 {b : List S} {nl : Nat} {a b' : Ent} {r : En} : outsOf { np := 2, nl := nl, pw := [], body := b } (a :: b' :: r) = [.un, .un] := rfl
@[simp] theorem outs1 {b : List S} {nl : Nat} {a : Ent} {r : En} : outsOf { np := 1, nl := nl, pw := [], body := b } (a :: r) = [.un] := rfl
@[simp] theorem isN_non : D.isN .non = true := rfl
@[simp] theorem isN_bl {b} : D.isN (.bl b) = false := rfl
@[simp] theorem isN_int {b} : D.isN (.int b) = false := rfl
@[simp] theorem isN_str {b} : D.isN (.str b) = false := rfl
@[simp] theorem isN_tup {b} : D.isN (.tup b) = false := rfl
@[simp] theorem isN_lst {b} : D.isN (.lst b) = false := rfl
@[simp] theorem cl_non : D.cl .non = some .none_ := rfl
@[simp] theorem cl_bl {b} : D.cl (.bl b) = some .bool := rfl
@[simp] theorem cl_int {b} : D.cl (.int b) = some .int := rfl
@[simp] theorem cl_str {b} : D.cl (.str b) = some .str := rfl
@[simp] theorem cl_tup {b} : D.cl (.tup b) = some .tuple := rfl
@[simp] theorem cl_lst {b} : D.cl (.lst b) = some .list := rfl
/-! ### the law's sameness -/
def gSame (s : Nat) : FD := { np := 2, nl := 4, pw := [], body := [.ite (.e (.pn (pisi [.list, .tuple]) [.var 1])) [.ite (.or (.e (.pn pne [.pn (pisi [.list]) [.var 0], .pn (pisi [.list]) [.var 1]])) (.e (.pn pne [.pn (pisi [.tuple]) [.var 0], .pn (pisi [.tuple]) [.var 1]]))) [.ret (.lit (.bl false))] [], .ret (.and (.pn peq [.pn plen [.var 0], .pn plen [.var 1]]) (.pn pall [.comp [2, 3] (.tp [.nm 2, .nm 3]) ikZip [.var 0, .var 1] [] (.call s [false, false] [.var 2, .var 3])]))] [], .ite (.or (.e (.pn pisN [.var 1, .lit .non])) (.e (.pn (pisi [.bool, .str]) [.var 1]))) [.ret (.and (.pn peq [.var 0, .var 1]) (.and (.pn peq [.pn (pisi [.bool]) [.var 0], .pn (pisi [.bool]) [.var 1]]) (.pn peq [.pn pisN [.var 0, .lit .non], .pn pisN [.var 1, .lit .non]])))] [], .ret (.and (.pn (pisi [.int]) [.var 0]) (.and (.not (.pn (pisi [.bool]) [.var 0])) (.pn peq [.var 0, .var 1])))] }
theorem zipD_self : ∀ {ds : List D} {x : D}, x ∈ zipD ds ds → ∃ d ∈ ds, x = .tup [d, d]
  | [], x, h => by simp [zipD] at h
  | d :: ds, x, h => by
    simp only [zipD, List.mem_cons] at h
    rcases h with rfl | h
    · exact ⟨d, by simp, rfl⟩
    · obtain ⟨d', h1, h2⟩ := zipD_self h
      exact ⟨d', by simp [h1], h2⟩
theorem peq_refl {d : D} (h : d.toPy.canLay0 = true) (h2 : d.toPy.depth ≤ 64) : peq [d, d] = some (.fz (.bl true)) := by
  simp [peq, eqOk, h, h2, PySem.SeqAt.eqv_refl _ h]
theorem same_items {tbl : List FD} {s k : Nat} {ds : List D} {a b : Ent} (ih : ∀ d ∈ ds, run tbl k s [.fz d, .fz d] = .ok (.fz (.bl true)) [.un, .un]) (hl : ds.length ≤ PySem.sizeLine) :
    compR [2, 3] (.tp [.nm 2, .nm 3]) (evTs (run tbl k) []) (frozen (ev (run tbl k) (.call s [false, false] [.var 2, .var 3]))) [a, b, .un, .un] (some (zipD ds ds)) = .ok (.ow (.lst ((zipD ds ds).map fun _ => .bl true))) [a, b, .un, .un] := by
  refine comp_map1 (fun _ => .bl true) (fun x hx => ?_) (by rw [zipD_length]; omega)
  obtain ⟨d, hd, rfl⟩ := zipD_self hx
  refine ⟨[a, b, .fz d, .fz d], by simp, ?_, by simp⟩
  simp [ih d hd]
theorem same_ok {tbl : List FD} {s : Nat} (hs : tbl[s]? = some (gSame s)) : ∀ (n : Nat) (k : Nat) (d : D), plainD n d = true → run tbl (k + n + 1) s [.fz d, .fz d] = .ok (.fz (.bl true)) [.un, .un] := by
  intro n
  induction n with
  | zero =>
    intro k d h
    rw [run_def hs rfl]
    cases d with
    | non => simp [gSame, isC, peq_refl, D.toPy, PyData.canLay0, PyData.depth]
    | bl b => simp [gSame, isC]
    | int i => simp [gSame, isC]
    | str x =>
      have hx : PyData.canLay0 (.str x) = true := by simpa using h
      simp [gSame, isC, peq_str hx hx]
    | _ => simp [plainD] at h
  | succ n ih =>
    intro k d h
    rw [run_def hs rfl]
    cases d with
    | non => simp [gSame, isC, peq_refl, D.toPy, PyData.canLay0, PyData.depth]
    | bl b => simp [gSame, isC]
    | int i => simp [gSame, isC]
    | str x =>
      have hx : PyData.canLay0 (.str x) = true := by simpa using h
      simp [gSame, isC, peq_str hx hx]
    | tup ds =>
      simp only [plain_tup, Bool.and_eq_true, decide_eq_true_eq, plains_iff] at h
      have := same_items (a := .fz (.tup ds)) (b := .fz (.tup ds)) (fun d hd => ih k d (h.2 d hd)) h.1
      simp [gSame, isC, Nat.add_assoc] at this ⊢
      rw [this]
      simp [bools_map (f := fun _ => D.bl true) (g := fun _ => true)]
    | lst ds =>
      simp only [plain_lst, Bool.and_eq_true, decide_eq_true_eq, plains_iff] at h
      have := same_items (a := .fz (.lst ds)) (b := .fz (.lst ds)) (fun d hd => ih k d (h.2 d hd)) h.1
      simp [gSame, isC, Nat.add_assoc] at this ⊢
      rw [this]
      simp [bools_map (f := fun _ => D.bl true) (g := fun _ => true)]
    | _ => simp [plainD] at h
end PI

end

section
set_option maxRecDepth 100000
set_option maxHeartbeats 1000000
/-! PiU: the source of draws, shared by all laws. -/
namespace PI
open PySem (Str PyData)
/-- the source of draws: so many draws are left -/
def Urn (b : Nat) (u : D) : Prop := ∃ x y c : Int, u = .lst [.int x, .int y, .int c] ∧ 0 ≤ x ∧ 0 ≤ c ∧ c + b ≤ 2 ^ 40
theorem Urn.mono {b b' : Nat} {u : D} (h : Urn b u) (hb : b' ≤ b) : Urn b' u := by
  obtain ⟨x, y, c, h1, h2, h3, h4⟩ := h
  exact ⟨x, y, c, h1, h2, h3, by omega⟩
theorem cmul_l {a b : Int} (h : -(2 ^ 64) < a) (h2 : a < 2 ^ 64) : L2.CMul a b := .inl ⟨h, h2⟩
theorem cmul_r {a b : Int} (h : -(2 ^ 64) < b) (h2 : b < 2 ^ 64) : L2.CMul a b := .inr ⟨h, h2⟩
def gTake : FD := { np := 2, nl := 6, pw := [0], body := [.ite (.e (.pn pgt [.pn pidx [.var 0, .lit (.int 0)], .lit (.int 0)])) [.set 5 (.pn pmod [.pn pint [.pn pidx [.var 0, .lit (.int 0)]], .var 1]), .sti 0 (.lit (.int 0)) (.pn pfdiv [.pn pidx [.var 0, .lit (.int 0)], .var 1]), .ret (.var 5)] [], .sti 0 (.lit (.int 2)) (.pn padd [.pn pidx [.var 0, .lit (.int 2)], .lit (.int 1)]), .set 2 (.pn pmod [.pn pint [.pn pmul [.pn padd [.pn pidx [.var 0, .lit (.int 1)], .pn pmul [.lit (.int 48271), .pn pidx [.var 0, .lit (.int 2)]]], .pn padd [.lit (.int 39373), .pn pidx [.var 0, .lit (.int 2)]]]], .lit (.int 2147483647)]), .set 3 (.pn padd [.pn pmod [.pn pint [.var 2], .lit (.int 40009)], .lit (.int 7)]), .set 4 (.pn pmod [.pn pint [.pn pmul [.pn padd [.pn padd [.var 2, .pn pidx [.var 0, .lit (.int 2)]], .pn pfdiv [.pn pidx [.var 0, .lit (.int 1)], .lit (.int 1000003)]], .var 3]], .lit (.int 2147483629)]), .ret (.pn pmod [.pn pint [.pn pfdiv [.pn pmod [.pn pint [.pn padd [.pn pmul [.var 4, .lit (.int 48271)], .var 2]], .lit (.int 2147483587)], .lit (.int 64)]], .var 1])] }
theorem take_ok {tbl : List FD} {t : Nat} (ht : tbl[t]? = some gTake) (k : Nat) {b : Nat} {low : Int} {u : D} (h : Urn b u) (hb : 1 ≤ b) (h0 : 0 < low) (h1 : low < 2 ^ 29) :
    ∃ (r : Int) (u' : D), run tbl (k + 1) t [.ow u, .fz (.int low)] = .ok (.fz (.int r)) [.ow u', .un] ∧ 0 ≤ r ∧ r < low ∧ Urn (b - 1) u' := by
  obtain ⟨a, y, c, rfl, ha, hc0, hcn⟩ := h
  rw [run_def ht rfl]
  have hl0 : low ≠ 0 := by omega
  have hl1 : low.natAbs < 1073741824 := by omega
  by_cases ha0 : 0 < a
  · refine ⟨a.fmod low, .lst [.int (a.fdiv low), .int y, .int c], ?_, ?_, ?_, ?_⟩
    · simp [gTake, ha0, hl0, hl1, stiL, outsOf, List.range_succ]
    · exact Int.fmod_nonneg_of_pos _ h0
    · exact Int.fmod_lt_of_pos _ h0
    · exact ⟨_, _, _, rfl, by rw [Int.fdiv_eq_ediv_of_nonneg _ (by omega)]; exact Int.ediv_nonneg ha (by omega), hc0, by omega⟩
  · have m1 : L2.CMul 48271 (c + 1) := cmul_l (by decide) (by decide)
    have m2 : L2.CMul (y + 48271 * (c + 1)) (39373 + (c + 1)) := cmul_r (by omega) (by omega)
    generalize hx : (Int.fmod ((y + 48271 * (c + 1)) * (39373 + (c + 1))) 2147483647) = x
    have by0 := Int.fmod_nonneg_of_pos x (show (0 : Int) < 40009 by decide)
    have by1 := Int.fmod_lt_of_pos x (show (0 : Int) < 40009 by decide)
    have m3 : L2.CMul (x + (c + 1) + y.fdiv 1000003) (x.fmod 40009 + 7) := cmul_r (by omega) (by omega)
    generalize hy : (Int.fmod ((x + (c + 1) + y.fdiv 1000003) * (x.fmod 40009 + 7)) 2147483629) = z
    have m4 : L2.CMul z 48271 := cmul_r (by decide) (by decide)
    refine ⟨(Int.fmod (Int.fdiv (Int.fmod (z * 48271 + x) 2147483587) 64) low), .lst [.int a, .int y, .int (c + 1)], ?_, ?_, ?_, ?_⟩
    · simp [gTake, ha0, hl0, hl1, stiL, outsOf, List.range_succ, pmul_int, m1, m2, hx, m3, hy, m4]
    · exact Int.fmod_nonneg_of_pos _ h0
    · exact Int.fmod_lt_of_pos _ h0
    · exact ⟨_, _, _, rfl, ha, by omega, by omega⟩
/-- an item of a list or a tuple, drawn -/
def gOf (t : Nat) : FD := { np := 2, nl := 2, pw := [0], body := [.ret (.pn pidx [.var 1, .call t [true, false] [.var 0, .pn plen [.var 1]]])] }
theorem of_ok {tbl : List FD} {t o : Nat} (ho : tbl[o]? = some (gOf t)) (ht : tbl[t]? = some gTake) (k : Nat) {b : Nat} {u : D} {goods : D} {gs : List D} (hg : goods = .lst gs ∨ goods = .tup gs) (h : Urn b u) (hb : 1 ≤ b) (h0 : gs ≠ []) (h1 : gs.length < 2 ^ 29) :
    ∃ (g u' : D), run tbl (k + 2) o [.ow u, .fz goods] = .ok (.fz g) [.ow u', .un] ∧ g ∈ gs ∧ Urn (b - 1) u' := by
  have hp : 0 < gs.length := List.length_pos_iff.mpr h0
  obtain ⟨r, u', e, r0, r1, hu⟩ := take_ok ht k h hb (low := (gs.length : Int)) (by omega) (by omega)
  rw [run_def ho rfl]
  have hr : r = ((r.toNat : Nat) : Int) := by omega
  have hlt : r.toNat < gs.length := by omega
  refine ⟨gs[r.toNat], u', ?_, List.getElem_mem _, hu⟩
  have at_ : L2.atI gs r = some gs[r.toNat] := by
    have e1 := atI_nat (xs := gs) (n := r.toNat)
    rw [← hr] at e1
    rw [e1]; simp [hlt]
  rcases hg with rfl | rfl
  · simp [gOf, e, at_, outsOf, List.range_succ]
  · simp [gOf, e, at_, outsOf, List.range_succ]
def gBox (c : Int) : FD := { np := 2, nl := 3, pw := [], body := [.set 2 (.ite (.e (.pn plt [.var 1, .pn plen [.var 0]])) (.pn pidx [.var 0, .var 1]) (.lit (.int 0))), .ret (.lst [.pn pmul [.pn pabs [.var 2], .pn pint [.pn pge [.pn pabs [.var 2], .pn ppow [.lit (.int 10), .lit (.int 18)]]]], .pn padd [.pn padd [.pn pmod [.pn pint [.var 2], .lit (.int 2305843009213693951)], .pn pmul [.lit (.int 39373), .var 1]], .lit (.int c)], .lit (.int 0)])] }
theorem box_ok {tbl : List FD} {x : Nat} {c : Int} (hx : tbl[x]? = some (gBox c)) (k : Nat) {cs : List Int} (h0 : cs ≠ []) : ∃ u, run tbl (k + 1) x [.fz (.lst (cs.map D.int)), .fz (.int 0)] = .ok (.ow u) [.un, .un] ∧ Urn 1000000 u := by
  obtain ⟨v, r, rfl⟩ : ∃ v r, cs = v :: r := by
    cases cs with
    | nil => exact (h0 rfl).elim
    | cons v r => exact ⟨v, r, rfl⟩
  rw [run_def hx rfl]
  generalize hy : (if v < 0 then -v else v) = y
  have hy0 : 0 ≤ y := by rw [← hy]; split <;> omega
  have pw : ppow [.int 10, .int 18] = some (.fz (.int 1000000000000000000)) := rfl
  have m1 : ∀ t : Bool, L2.CMul y (if t = true then 1 else 0) := fun t => cmul_r (by cases t <;> decide) (by cases t <;> decide)
  have m2 : L2.CMul 39373 0 := cmul_l (by decide) (by decide)
  refine ⟨.lst [.int (y * (if decide ((1000000000000000000 : Int) ≤ y) = true then 1 else 0)), .int (v.fmod 2305843009213693951 + 39373 * 0 + c), .int 0], ?_, _, _, _, rfl, ?_, by omega, by decide⟩
  · have m1' := m1 (decide ((1000000000000000000 : Int) ≤ y))
    simp only [decide_eq_true_eq] at m1'
    simp [gBox, lstR, szl, hy, pw, pmul_int, m1', m2, show (0 : Int) < (r.length : Int) + 1 by omega]
  · split <;> omega
/-! ### the first numbers of the script -/
def gCells : FD := { np := 2, nl := 6, pw := [], body := [.set 2 (.or (.pn plist [.sl (.var 0) [] [.var 1]]) (.lst [.lit (.int 0)])), .for_ (.tp [.nm 3, .nm 4]) ikEnum [.sl (.var 0) [.var 1] [.lit (.int 63)]] [.set 5 (.pn pmod [.pn pint [.var 3], .var 1]), .sti 2 (.var 5) (.pn padd [.pn pidx [.var 2, .var 5], .pn pmul [.var 4, .pn padd [.var 3, .lit (.int 2)]]])], .ret (.var 2)] }
theorem fmod_one (a : Int) : a.fmod 1 = 0 := by
  have h1 := Int.fmod_nonneg_of_pos a (show (0 : Int) < 1 by decide)
  have h2 := Int.fmod_lt_of_pos a (show (0 : Int) < 1 by decide)
  omega
theorem cells_loop {C : Calls} {a b : Ent} : ∀ (ns : List Int) (n : Nat) (v : Int) (x y z : Ent), n + ns.length ≤ 1000 → b = .fz (.int 1) → ∃ w x' y' z', forLoop [] (.tp [.nm 3, .nm 4]) (execs C [] [.set 5 (.pn pmod [.pn pint [.var 3], .var 1]), .sti 2 (.var 5) (.pn padd [.pn pidx [.var 2, .var 5], .pn pmul [.var 4, .pn padd [.var 3, .lit (.int 2)]]])]) (enumD n (ns.map D.int)) [a, b, .ow (.lst [.int v]), x, y, z] = .nx [a, b, .ow (.lst [.int w]), x', y', z']
  | [], n, v, x, y, z, _, _ => ⟨v, x, y, z, by simp [enumD]⟩
  | m :: ns, n, v, x, y, z, hn, hb => by
    subst hb
    have m1 : L2.CMul m ((n : Int) + 2) := cmul_r (by simp at hn; omega) (by simp at hn; omega)
    obtain ⟨w, x', y', z', h⟩ := cells_loop (C := C) (a := a) (b := .fz (.int 1)) ns (n + 1) (v + m * ((n : Int) + 2)) (.fz (.int n)) (.fz (.int m)) (.fz (.int 0)) (by simp at hn; omega) rfl
    refine ⟨w, x', y', z', ?_⟩
    rw [List.map_cons, enumD]
    simp [fmod_one, pmul_int, m1, stiL, h]
theorem cutD_to1 {xs : List D} : cutD xs none (some 1) = xs.take 1 := by
  unfold cutD
  rw [show HT.sIx xs.length xs.length (some 1) = min 1 xs.length from HT.sIx_nat xs.length xs.length 1, HT.sIx_none]
  cases xs with
  | nil => rfl
  | cons x r => simp
theorem cutD_from1 {xs : List D} (h : xs.length ≤ 63) : cutD xs (some 1) (some 63) = xs.drop 1 := by
  unfold cutD
  rw [show HT.sIx xs.length 0 (some 1) = min 1 xs.length from HT.sIx_nat xs.length 0 1, show HT.sIx xs.length xs.length (some 63) = min 63 xs.length from HT.sIx_nat xs.length xs.length 63]
  cases xs with
  | nil => rfl
  | cons x r =>
    simp at h
    have e1 : min 63 (x :: r).length = r.length + 1 := by simp; omega
    have e2 : min 1 (x :: r).length = 1 := by simp
    rw [e1, e2]
    simp
theorem cells_ok {tbl : List FD} {x : Nat} (hx : tbl[x]? = some gCells) (k : Nat) {ns : List Int} (h : ns.length ≤ 63) : ∃ w : Int, run tbl (k + 1) x [.fz (.scr (ns.map D.int)), .fz (.int 1)] = .ok (.ow (.lst ([w].map D.int))) [.un, .un] := by
  rw [run_def hx rfl]
  have e2 := cutD_from1 (xs := ns.map D.int) (by simpa using h)
  cases ns with
  | nil =>
    refine ⟨0, ?_⟩
    simp [gCells, lstR, szl, cutD_to1, e2, plist, enumD] at e2 ⊢
    simp [e2, enumD]
  | cons v r =>
    obtain ⟨w, x', y', z', hl⟩ := cells_loop (C := run tbl k) (a := .fz (.scr ((v :: r).map D.int))) (b := .fz (.int 1)) r 0 v .un .un .un (by simp at h; omega) rfl
    refine ⟨w, ?_⟩
    simp at e2 hl
    simp [gCells, cutD_to1, e2, hl]
theorem popAt_eq {i : Nat} {e : En} {ds : List D} {n : Nat} (h : e[i]? = some (.ow (.lst ds))) (hn : n < ds.length) (hz : ds.length ≤ 1000) : popAt i (.fz (.int (n : Int))) e = .ok (.fz ds[n]) (e.set i (.ow (.lst (ds.eraseIdx n)))) := by
  have h1 : ownL e i = some ds := by simp [h]
  have h2 : PySem.seqIndex? (n : Int) ds.length = some n := by
    unfold PySem.seqIndex?
    have e1 : ¬ ((n : Int) < 0) := by omega
    simp only [e1, if_false]
    simp [hn]
  unfold popAt
  rw [h1]
  dsimp only
  rw [if_pos (by omega), h2]
  simp [hn]
theorem appL_eq {i : Nat} {e : En} {ds : List D} {d : D} (h : e[i]? = some (.ow (.lst ds))) (hz : ds.length ≤ 1000000) : appL i d e = some (e.set i (.ow (.lst (ds ++ [d])))) := by
  have h1 : ownL e i = some ds := by simp [h]
  unfold appL
  rw [h1]
  dsimp only
  rw [if_pos (by rw [szl]; omega)]
theorem rangeD_length {lo : Int} {n : Nat} : (rangeD lo n).length = n := by simp [rangeD]
def gPick (t : Nat) : FD := { np := 3, nl := 6, pw := [0], body := [.par 4 5 (.pn plist [.var 1]) (.lst []), .for_ (.nm 3) ikRange1 [.pn pmin2 [.pn pint [.var 2], .pn plen [.var 4]]] [.app 5 (.popA 4 (.call t [true, false] [.var 0, .pn plen [.var 4]]))], .ret (.var 5)] }
theorem pick_ok {tbl : List FD} {t p : Nat} (hp : tbl[p]? = some (gPick t)) (ht : tbl[t]? = some gTake) (k : Nat) {b : Nat} {c : Int} {u : D} {goods : List D} (h : Urn b u) (hc0 : 0 ≤ c) (hc1 : c ≤ 100) (hb : 100 ≤ b) (hz : goods.length ≤ 1000) :
    ∃ (fs : List D) (u' : D), run tbl (k + 2) p [.ow u, .fz (.lst goods), .fz (.int c)] = .ok (.ow (.lst fs)) [.ow u', .un, .un] ∧ (∀ d ∈ fs, d ∈ goods) ∧ fs.length ≤ 100 ∧ Urn (b - 100) u' := by
  rw [run_def hp rfl]
  generalize hmm : (if (goods.length : Int) < c then (goods.length : Int) else c) = mm
  have hm0 : 0 ≤ mm ∧ mm ≤ 100 ∧ mm ≤ goods.length := by rw [← hmm]; split <;> omega
  have := forLoop_inv (pw := [0]) (tg := .nm 3) (b := execs (run tbl (k + 1)) [0] [.app 5 (.popA 4 (.call t [true, false] [.var 0, .pn plen [.var 4]]))])
    (fun rest e => ∃ u x pool found, e = [.ow u, .fz (.lst goods), .fz (.int c), x, .ow (.lst pool), .ow (.lst found)] ∧ Urn (b - found.length) u ∧ (∀ d ∈ pool, d ∈ goods) ∧ (∀ d ∈ found, d ∈ goods) ∧ rest.length ≤ pool.length ∧ pool.length ≤ 1000 ∧ found.length + rest.length ≤ 100) (fun x rest e => by
      rintro ⟨u, y, pool, found, rfl, hu, h1, h2, h3, h5, h4⟩
      simp only [List.length_cons] at h3 h4
      obtain ⟨r, u', e1, r0, r1, hu'⟩ := take_ok ht k hu (by omega) (low := (pool.length : Int)) (by omega) (by omega)
      refine ⟨_, by simp; rfl, ?_⟩
      obtain ⟨n, rfl⟩ : ∃ n : Nat, r = (n : Int) := ⟨r.toNat, by omega⟩
      have hn : n < pool.length := by omega
      refine ⟨[.ow u', .fz (.lst goods), .fz (.int c), .fz x, .ow (.lst (pool.eraseIdx n)), .ow (.lst (found ++ [pool[n]]))], .inl ?_, u', .fz x, _, _, rfl, ?_, ?_, ?_, ?_, ?_, ?_⟩
      · have e2 := popAt_eq (i := 4) (e := [.ow u', .fz (.lst goods), .fz (.int c), .fz x, .ow (.lst pool), .ow (.lst found)]) (ds := pool) (n := n) rfl hn h5
        have e3 := appL_eq (i := 5) (e := [.ow u', .fz (.lst goods), .fz (.int c), .fz x, .ow (.lst (pool.eraseIdx n)), .ow (.lst found)]) (ds := found) (d := pool[n]) rfl (by omega)
        simp at e1 e2 e3
        simp [e1, e2, e3]
      · simp; exact hu'.mono (by omega)
      · intro d hd; exact h1 d (List.mem_of_mem_eraseIdx hd)
      · intro d hd
        rcases List.mem_append.mp hd with hd | hd
        · exact h2 d hd
        · simp at hd; subst hd; exact h1 _ (List.getElem_mem _)
      · rw [List.length_eraseIdx]; split <;> omega
      · rw [List.length_eraseIdx]; split <;> omega
      · simp; omega) (xs := rangeD 0 mm.toNat) (e := [.ow u, .fz (.lst goods), .fz (.int c), .un, .ow (.lst goods), .ow (.lst [])]) ⟨u, .un, goods, [], rfl, by simpa using h, by simp, by simp, by rw [rangeD_length]; omega, hz, by rw [rangeD_length]; simp; omega⟩
  obtain ⟨e', h1, u', x, pool, found, rfl, h2, h3, h4, _, _, h5⟩ := this
  refine ⟨found, u', ?_, h4, by simp at h5; omega, h2.mono (by simp at h5; omega)⟩
  have hr := ikRange1_int (j := mm) (by omega) (by omega)
  simp [gPick, lstR, szl, hmm, hr, h1, outsOf, List.range_succ]
end PI

end

section
set_option maxRecDepth 100000
set_option maxHeartbeats 4000000
namespace K02
open PySem PySem.Spec PyProof.Rows L2 PI
def topS (i : Nat) : Stmt := PySem.Challenge.pw_queuedsums_k02_whole_all_sound_histories.main.body.getD i (.Pass ⟨0, 0, 0, 0⟩)
abbrev st_is_number : Stmt := topS 1
abbrev N_is_number : List Str := ["thing"]
abbrev st_tuple_of : Stmt := topS 2
abbrev N_tuple_of : List Str := ["thing", "part"]
abbrev st_is_tuple_of : Stmt := topS 3
abbrev N_is_tuple_of : List Str := ["thing", "many"]
abbrev st_is_letter : Stmt := topS 5
abbrev N_is_letter : List Str := ["thing"]
abbrev st_is_word : Stmt := topS 6
abbrev N_is_word : List Str := ["thing", "own"]
abbrev st_is_deed : Stmt := topS 7
abbrev N_is_deed : List Str := ["thing"]
abbrev st_is_history : Stmt := topS 8
abbrev N_is_history : List Str := ["thing", "own"]
abbrev st_is_sound_in : Stmt := topS 9
abbrev N_is_sound_in : List Str := ["history", "many", "deed"]
abbrev st_is_sound : Stmt := topS 10
abbrev N_is_sound : List Str := ["history"]
abbrev st_histories_of : Stmt := topS 11
abbrev N_histories_of : List Str := ["letters", "many", "rows", "_", "longer", "history", "standing", "letter"]
abbrev st__law_box : Stmt := topS 13
abbrev N__law_box : List Str := ["script", "k", "cell"]
abbrev st__law_take : Stmt := topS 14
abbrev N__law_take : List Str := ["urn", "low_so", "once", "far", "twice", "drawn"]
abbrev st__law_cells : Stmt := topS 15
abbrev N__law_cells : List Str := ["script", "top", "cells", "k", "cell", "at_so"]
abbrev st__law_of : Stmt := topS 16
abbrev N__law_of : List Str := ["urn", "goods"]
abbrev st__law_pick : Stmt := topS 17
abbrev N__law_pick : List Str := ["tin", "goods", "count", "lap", "pool", "found"]
abbrev st__law_same : Stmt := topS 18
abbrev N__law_same : List Str := ["got", "goal", "mine_so", "own"]
abbrev st__law_lists : Stmt := topS 19
abbrev N__law_lists : List Str := ["matter", "own"]
abbrev st__law_is_sound : Stmt := topS 20
abbrev N__law_is_sound : List Str := ["history", "many", "deed"]
abbrev st__law_all : Stmt := topS 21
abbrev N__law_all : List Str := ["letters", "many", "deeds", "found", "lap", "longer", "own", "letter", "deed"]
abbrev st__law_thing : Stmt := topS 22
abbrev N__law_thing : List Str := ["tin"]
abbrev st__law_is_letter : Stmt := topS 23
abbrev N__law_is_letter : List Str := ["matter"]
abbrev st__law_is_deed : Stmt := topS 24
abbrev N__law_is_deed : List Str := ["matter"]
abbrev st__law_by_hand_right : Stmt := topS 25
abbrev N__law_by_hand_right : List Str := ["got", "one", "gone"]
abbrev st__law_right : Stmt := topS 26
abbrev N__law_right : List Str := ["tin", "letters", "many", "rows", "some", "things", "lots", "due", "words", "lap", "own", "its"]
abbrev st_law : Stmt := topS 27
abbrev N_law : List Str := ["script"]
/-! ### the tables -/
def fd_is_number : FD := { np := 1, nl := 1, pw := [], body := [.ret (.and (.pn (pisi [.int]) [.var 0]) (.not (.pn (pisi [.bool]) [.var 0])))] }
def fd_tuple_of : FD := { np := 1, nl := 2, pw := [], body := [.ite (.e (.pn (pisi [.list, .tuple]) [.var 0])) [.ret (.pn ptuple [.comp [1] (.nm 1) ikVal [.var 0] [] (.call 1 [false] [.var 1])])] [], .ret (.var 0)] }
def fd_is_tuple_of : FD := { np := 2, nl := 2, pw := [], body := [.ret (.and (.pn (pisi [.tuple]) [.var 0]) (.pn peq [.pn plen [.var 0], .var 1]))] }
def fd_is_letter : FD := { np := 1, nl := 1, pw := [], body := [.ret (.and (.call 0 [false] [.var 0]) (.pn pge [.var 0, .lit (.int 1)]))] }
def fd_is_word : FD := { np := 1, nl := 2, pw := [], body := [.ret (.and (.pn (pisi [.tuple]) [.var 0]) (.pn pall [.comp [1] (.nm 1) ikVal [.var 0] [] (.call 3 [false] [.var 1])]))] }
def fd_is_deed : FD := { np := 1, nl := 1, pw := [], body := [.ite (.e (.call 2 [false, false] [.var 0, .lit (.int 1)])) [.ret (.and (.pn (pisi [.str]) [.pn pidx [.var 0, .lit (.int 0)]]) (.pn peq [.pn pidx [.var 0, .lit (.int 0)], .lit (.str (Str.ofString "out"))]))] [], .ret (.and (.call 2 [false, false] [.var 0, .lit (.int 2)]) (.and (.pn (pisi [.str]) [.pn pidx [.var 0, .lit (.int 0)]]) (.and (.pn peq [.pn pidx [.var 0, .lit (.int 0)], .lit (.str (Str.ofString "in"))]) (.call 3 [false] [.pn pidx [.var 0, .lit (.int 1)]]))))] }
def fd_is_history : FD := { np := 1, nl := 2, pw := [], body := [.ret (.and (.pn (pisi [.tuple]) [.var 0]) (.pn pall [.comp [1] (.nm 1) ikVal [.var 0] [] (.call 5 [false] [.var 1])]))] }
def fd_is_sound_in : FD := { np := 1, nl := 3, pw := [], body := [.set 1 (.lit (.int 0)), .for_ (.nm 2) ikVal [.var 0] [.set 1 (.ite (.e (.pn peq [.pn pidx [.var 2, .lit (.int 0)], .lit (.str (Str.ofString "in"))])) (.pn padd [.var 1, .lit (.int 1)]) (.pn psub [.var 1, .lit (.int 1)])), .ite (.e (.pn plt [.var 1, .lit (.int 0)])) [.ret (.lit (.bl false))] []], .ret (.lit (.bl true))] }
def fd_is_sound : FD := { np := 1, nl := 1, pw := [], body := [.ret (.call 7 [false] [.call 1 [false] [.var 0]])] }
def fd_histories_of : FD := { np := 2, nl := 8, pw := [], body := [.set 2 (.lst [.tup [.tup [], .lit (.int 0)]]), .for_ (.nm 3) ikRange1 [.var 1] [.set 4 (.lst []), .for_ (.tp [.nm 5, .nm 6]) ikVal [.var 2] [.for_ (.nm 7) ikRange2 [.lit (.int 1), .pn padd [.var 0, .lit (.int 1)]] [.app 4 (.tup [.pn padd [.var 5, .tup [.tup [.lit (.str (Str.ofString "in")), .var 7]]], .pn padd [.var 6, .lit (.int 1)]])], .ite (.e (.pn pgt [.var 6, .lit (.int 0)])) [.app 4 (.tup [.pn padd [.var 5, .tup [.tup [.lit (.str (Str.ofString "out"))]]], .pn psub [.var 6, .lit (.int 1)]])] []], .set 2 (.var 4)], .ret (.comp [5, 3] (.tp [.nm 5, .nm 3]) ikVal [.var 2] [] (.var 5))] }
def fd__law_box : FD := { np := 2, nl := 3, pw := [], body := [.set 2 (.ite (.e (.pn plt [.var 1, .pn plen [.var 0]])) (.pn pidx [.var 0, .var 1]) (.lit (.int 0))), .ret (.lst [.pn pmul [.pn pabs [.var 2], .pn pint [.pn pge [.pn pabs [.var 2], .pn ppow [.lit (.int 10), .lit (.int 18)]]]], .pn padd [.pn padd [.pn pmod [.pn pint [.var 2], .lit (.int 2305843009213693951)], .pn pmul [.lit (.int 39373), .var 1]], .lit (.int 3184003)], .lit (.int 0)])] }
def st0__law_take : S := .ite (.e (.pn pgt [.pn pidx [.var 0, .lit (.int 0)], .lit (.int 0)])) [.set 5 (.pn pmod [.pn pint [.pn pidx [.var 0, .lit (.int 0)]], .var 1]), .sti 0 (.lit (.int 0)) (.pn pfdiv [.pn pidx [.var 0, .lit (.int 0)], .var 1]), .ret (.var 5)] []
def st1__law_take : S := .sti 0 (.lit (.int 2)) (.pn padd [.pn pidx [.var 0, .lit (.int 2)], .lit (.int 1)])
def st2__law_take : S := .set 2 (.pn pmod [.pn pint [.pn pmul [.pn padd [.pn pidx [.var 0, .lit (.int 1)], .pn pmul [.lit (.int 48271), .pn pidx [.var 0, .lit (.int 2)]]], .pn padd [.lit (.int 39373), .pn pidx [.var 0, .lit (.int 2)]]]], .lit (.int 2147483647)])
def st3__law_take : S := .set 3 (.pn padd [.pn pmod [.pn pint [.var 2], .lit (.int 40009)], .lit (.int 7)])
def st4__law_take : S := .set 4 (.pn pmod [.pn pint [.pn pmul [.pn padd [.pn padd [.var 2, .pn pidx [.var 0, .lit (.int 2)]], .pn pfdiv [.pn pidx [.var 0, .lit (.int 1)], .lit (.int 1000003)]], .var 3]], .lit (.int 2147483629)])
def st5__law_take : S := .ret (.pn pmod [.pn pint [.pn pfdiv [.pn pmod [.pn pint [.pn padd [.pn pmul [.var 4, .lit (.int 48271)], .var 2]], .lit (.int 2147483587)], .lit (.int 64)]], .var 1])
def fd__law_take : FD := { np := 2, nl := 6, pw := [0], body := [st0__law_take, st1__law_take, st2__law_take, st3__law_take, st4__law_take, st5__law_take] }
def fd__law_cells : FD := { np := 2, nl := 6, pw := [], body := [.set 2 (.or (.pn plist [.sl (.var 0) [] [.var 1]]) (.lst [.lit (.int 0)])), .for_ (.tp [.nm 3, .nm 4]) ikEnum [.sl (.var 0) [.var 1] [.lit (.int 63)]] [.set 5 (.pn pmod [.pn pint [.var 3], .var 1]), .sti 2 (.var 5) (.pn padd [.pn pidx [.var 2, .var 5], .pn pmul [.var 4, .pn padd [.var 3, .lit (.int 2)]]])], .ret (.var 2)] }
def fd__law_of : FD := { np := 2, nl := 2, pw := [0], body := [.ret (.pn pidx [.var 1, .call 11 [true, false] [.var 0, .pn plen [.var 1]]])] }
def fd__law_pick : FD := { np := 3, nl := 6, pw := [0], body := [.par 4 5 (.pn plist [.var 1]) (.lst []), .for_ (.nm 3) ikRange1 [.pn pmin2 [.pn pint [.var 2], .pn plen [.var 4]]] [.app 5 (.popA 4 (.call 11 [true, false] [.var 0, .pn plen [.var 4]]))], .ret (.var 5)] }
def fd__law_same : FD := { np := 2, nl := 4, pw := [], body := [.ite (.e (.pn (pisi [.list, .tuple]) [.var 1])) [.ite (.or (.e (.pn pne [.pn (pisi [.list]) [.var 0], .pn (pisi [.list]) [.var 1]])) (.e (.pn pne [.pn (pisi [.tuple]) [.var 0], .pn (pisi [.tuple]) [.var 1]]))) [.ret (.lit (.bl false))] [], .ret (.and (.pn peq [.pn plen [.var 0], .pn plen [.var 1]]) (.pn pall [.comp [2, 3] (.tp [.nm 2, .nm 3]) ikZip [.var 0, .var 1] [] (.call 15 [false, false] [.var 2, .var 3])]))] [], .ite (.or (.e (.pn pisN [.var 1, .lit .non])) (.e (.pn (pisi [.bool, .str]) [.var 1]))) [.ret (.and (.pn peq [.var 0, .var 1]) (.and (.pn peq [.pn (pisi [.bool]) [.var 0], .pn (pisi [.bool]) [.var 1]]) (.pn peq [.pn pisN [.var 0, .lit .non], .pn pisN [.var 1, .lit .non]])))] [], .ret (.and (.pn (pisi [.int]) [.var 0]) (.and (.not (.pn (pisi [.bool]) [.var 0])) (.pn peq [.var 0, .var 1])))] }
def fd__law_lists : FD := { np := 1, nl := 2, pw := [], body := [.ret (.ite (.e (.pn (pisi [.list, .tuple]) [.var 0])) (.comp [1] (.nm 1) ikVal [.var 0] [] (.call 16 [false] [.var 1])) (.var 0))] }
def fd__law_is_sound : FD := { np := 1, nl := 3, pw := [], body := [.set 1 (.lit (.int 0)), .for_ (.nm 2) ikVal [.var 0] [.set 1 (.pn padd [.var 1, .ite (.e (.pn peq [.pn pidx [.var 2, .lit (.int 0)], .lit (.str (Str.ofString "in"))])) (.lit (.int 1)) (.pn pneg [.lit (.int 1)])]), .ite (.e (.pn plt [.var 1, .lit (.int 0)])) [.ret (.lit (.bl false))] []], .ret (.lit (.bl true))] }
def fd__law_all : FD := { np := 2, nl := 9, pw := [], body := [.set 2 (.pn padd [.comp [7] (.nm 7) ikRange2 [.lit (.int 1), .pn padd [.var 0, .lit (.int 1)]] [] (.tup [.lit (.str (Str.ofString "in")), .var 7]), .lst [.tup [.lit (.str (Str.ofString "out"))]]]), .set 3 (.lst [.tup []]), .for_ (.nm 4) ikRange1 [.var 1] [.set 5 (.lst []), .for_ (.nm 6) ikVal [.var 3] [.set 5 (.pn padd [.var 5, .comp [8] (.nm 8) ikVal [.var 2] [] (.pn padd [.var 6, .tup [.var 8]])])], .set 3 (.var 5)], .ret (.var 3)] }
def fd__law_thing : FD := { np := 1, nl := 1, pw := [0], body := [.ret (.call 13 [true, false] [.var 0, .lst [.tup [.lit (.str (Str.ofString "in")), .call 13 [true, false] [.var 0, .lst [.lit (.int 1), .lit (.int 2), .lit (.int 7), .lit (.int 0), .pn pneg [.lit (.int 1)], .lit (.bl true), .lit .non, .lit (.str (Str.ofString "1")), .tup [.lit (.int 1)]]]], .tup [.lit (.str (Str.ofString "out"))], .tup [.lit (.str (Str.ofString "in")), .lit (.int 3)], .lst [.lit (.str (Str.ofString "in")), .lit (.int 1)], .tup [.lit (.str (Str.ofString "out")), .lit (.int 1)], .lit (.str (Str.ofString "out")), .tup [.lit (.str (Str.ofString "in"))], .tup [], .lit .non, .lit (.int 4), .tup [.lit (.str (Str.ofString "IN")), .lit (.int 2)], .tup [.tup [.lit (.str (Str.ofString "out"))]], .lst [.lit (.str (Str.ofString "out"))]]])] }
def fd__law_is_letter : FD := { np := 1, nl := 1, pw := [], body := [.ret (.and (.pn (pisi [.int]) [.var 0]) (.and (.not (.pn (pisi [.bool]) [.var 0])) (.pn pgt [.var 0, .lit (.int 0)])))] }
def fd__law_is_deed : FD := { np := 1, nl := 1, pw := [], body := [.ite (.or (.not (.e (.pn (pisi [.tuple]) [.var 0]))) (.or (.e (.pn peq [.var 0, .tup []])) (.not (.e (.pn (pisi [.str]) [.pn pidx [.var 0, .lit (.int 0)]]))))) [.ret (.lit (.bl false))] [], .ret (.ite (.e (.pn pne [.pn pidx [.var 0, .lit (.int 0)], .lit (.str (Str.ofString "in"))])) (.pn peq [.var 0, .tup [.lit (.str (Str.ofString "out"))]]) (.and (.pn peq [.pn plen [.var 0], .lit (.int 2)]) (.call 20 [false] [.pn pidx [.var 0, .lit (.int 1)]])))] }
def fd__law_by_hand_right : FD := { np := 0, nl := 3, pw := [], body := [.unp [.nm 1, .nm 2] (.tup [.tup [.lit (.str (Str.ofString "in")), .lit (.int 1)], .tup [.lit (.str (Str.ofString "out"))]]), .set 0 (.lst [.call 9 [false, false] [.lit (.int 1), .lit (.int 2)], .call 8 [false] [.tup [.var 2, .var 1]], .call 5 [false] [.tup [.lit (.str (Str.ofString "in")), .lit (.bl true)]], .call 4 [false] [.tup [.lit (.int 0)]], .call 6 [false] [.tup [.var 1, .tup [.lit (.str (Str.ofString "out")), .lit (.int 1)]]]]), .ret (.call 15 [false, false] [.var 0, .lst [.lst [.tup [.var 1, .var 1], .tup [.var 1, .var 2]], .lit (.bl false), .lit (.bl false), .lit (.bl false), .lit (.bl false)]])] }
def st0__law_right : S := .set 1 (.pn padd [.lit (.int 1), .call 11 [true, false] [.var 0, .lit (.int 3)]])
def st1__law_right : S := .set 2 (.call 11 [true, false] [.var 0, .pn psub [.lit (.int 6), .var 1]])
def st2__law_right : S := .set 3 (.call 18 [false, false] [.var 1, .var 2])
def st3__law_right : S := .ite (.not (.e (.call 15 [false, false] [.call 9 [false, false] [.var 1, .var 2], .comp [10] (.nm 10) ikVal [.var 3] [.e (.call 17 [false] [.var 10])] (.var 10)]))) [.ret (.lit (.bl false))] []
def st4__law_right : S := .set 4 (.comp [9] (.nm 9) ikRange1 [.lit (.int 12)] [] (.call 13 [true, false] [.var 0, .var 3]))
def st5__law_right : S := .ite (.not (.e (.call 15 [false, false] [.comp [10] (.nm 10) ikVal [.var 4] [] (.call 8 [false] [.var 10]), .comp [10] (.nm 10) ikVal [.var 4] [] (.call 17 [false] [.var 10])]))) [.ret (.lit (.bl false))] []
def st6__law_right : S := .set 5 (.comp [9] (.nm 9) ikRange1 [.lit (.int 10)] [] (.call 19 [true] [.var 0]))
def st7__law_right : S := .ite (.not (.e (.call 15 [false, false] [.comp [10] (.nm 10) ikVal [.var 5] [] (.call 5 [false] [.var 10]), .comp [10] (.nm 10) ikVal [.var 5] [] (.call 21 [false] [.var 10])]))) [.ret (.lit (.bl false))] []
def st8__law_right : S := .set 6 (.pn padd [.comp [9] (.nm 9) ikRange1 [.lit (.int 4)] [] (.pn ptuple [.call 14 [true, false, false] [.var 0, .var 5, .call 11 [true, false] [.var 0, .lit (.int 3)]]]), .lst [.sl (.var 5) [] [.lit (.int 1)], .pn pidx [.var 5, .lit (.int 0)]]])
def st9__law_right : S := .set 7 (.comp [10] (.nm 10) ikVal [.var 6] [] (.and (.pn (pisi [.tuple]) [.var 10]) (.pn peq [.comp [11] (.nm 11) ikVal [.var 10] [.not (.e (.call 21 [false] [.var 11]))] (.lit (.int 1)), .lst []])))
def st10__law_right : S := .ite (.not (.e (.call 15 [false, false] [.comp [10] (.nm 10) ikVal [.var 6] [] (.call 6 [false] [.var 10]), .var 7]))) [.ret (.lit (.bl false))] []
def st11__law_right : S := .set 8 (.pn padd [.comp [10] (.nm 10) ikRange1 [.lit (.int 4)] [] (.pn ptuple [.comp [9] (.nm 9) ikRange1 [.call 11 [true, false] [.var 0, .lit (.int 4)]] [] (.call 13 [true, false] [.var 0, .lst [.lit (.int 1), .lit (.int 2), .lit (.int 3), .lit (.int 9), .lit (.int 0), .lit (.bl true), .lit .non, .lit (.str (Str.ofString "a"))]])]), .lst [.lst [.lit (.int 1)], .lit (.int 1)]])
def st12__law_right : S := .ret (.call 15 [false, false] [.comp [10] (.nm 10) ikVal [.var 8] [] (.call 4 [false] [.var 10]), .comp [10] (.nm 10) ikVal [.var 8] [] (.and (.pn (pisi [.tuple]) [.var 10]) (.pn peq [.comp [11] (.nm 11) ikVal [.var 10] [.not (.e (.call 20 [false] [.var 11]))] (.lit (.int 1)), .lst []]))])
def fd__law_right : FD := { np := 1, nl := 12, pw := [0], body := [st0__law_right, st1__law_right, st2__law_right, st3__law_right, st4__law_right, st5__law_right, st6__law_right, st7__law_right, st8__law_right, st9__law_right, st10__law_right, st11__law_right, st12__law_right] }
def fd_law : FD := { np := 1, nl := 1, pw := [], body := [.ite (.not (.e (.call 22 [] []))) [.ret (.lit (.bl false))] [], .ret (.call 23 [true] [.call 10 [false, false] [.call 12 [false, false] [.var 0, .lit (.int 1)], .lit (.int 0)]])] }
def tbl : List FD := [fd_is_number, fd_tuple_of, fd_is_tuple_of, fd_is_letter, fd_is_word, fd_is_deed, fd_is_history, fd_is_sound_in, fd_is_sound, fd_histories_of, fd__law_box, fd__law_take, fd__law_cells, fd__law_of, fd__law_pick, fd__law_same, fd__law_lists, fd__law_is_sound, fd__law_all, fd__law_thing, fd__law_is_letter, fd__law_is_deed, fd__law_by_hand_right, fd__law_right, fd_law]
def names : List Str := ["is_number", "tuple_of", "is_tuple_of", "is_letter", "is_word", "is_deed", "is_history", "is_sound_in", "is_sound", "histories_of", "_law_box", "_law_take", "_law_cells", "_law_of", "_law_pick", "_law_same", "_law_lists", "_law_is_sound", "_law_all", "_law_thing", "_law_is_letter", "_law_is_deed", "_law_by_hand_right", "_law_right", "law"]

end K02

end

section
set_option maxHeartbeats 4000000
namespace K02
open PySem PySem.Spec PyProof.Rows L2 PI
/-! ### the derivations -/
structure Bt (mg : Str → Option Value) : Prop where
  b_abs : mg "abs" = none
  b_all : mg "all" = none
  b_bool : mg "bool" = none
  b_enumerate : mg "enumerate" = none
  b_int : mg "int" = none
  b_isinstance : mg "isinstance" = none
  b_len : mg "len" = none
  b_list : mg "list" = none
  b_min : mg "min" = none
  b_range : mg "range" = none
  b_str : mg "str" = none
  b_tuple : mg "tuple" = none
  b_zip : mg "zip" = none
section
variable {P : Program} {w : World} {K : PySem.W.Frag} {mg : Str → Option Value} {base : Heap} {XC : Str → Value → Prop} {C : Calls} {k : Nat}
theorem sc_is_number : FnScope N_is_number ["thing"] (defScope st_is_number) := ⟨rfl, rfl, rfl, by decide +kernel, rfl, by decide +kernel, by decide +kernel⟩
theorem ok_is_number (B : Bt mg) (G : FnCx P w K mg base XC C k names) (fa : Addr) (cdv : Value) (A : Around) (outer : List Env) (s : Shared) (H : Hp) (E : XK) (hr : Room k (A.deeper (envOfC "is_number" (defScope st_is_number) s.heap.objs.size fa cdv))) :
    PSs (cxOf (L2.CX P w) P w K mg base N_is_number "is_number" (defScope st_is_number) fa cdv A outer s H E) (defBody st_is_number) (tSs K XC C (fun cls d _ H => E cls d H) fd_is_number.pw fd_is_number.body) := by
  have sc := sc_is_number
  have tk : Takes (cxOf (L2.CX P w) P w K mg base N_is_number "is_number" (defScope st_is_number) fa cdv A outer s H E) (fun cls d _ H => E cls d H) := takes_of rfl rfl rfl rfl
  exact (ss_cons (ss_ret (se_and (se_isi1 (k := .int) (rest := []) (by rfl) B.b_isinstance (se_varO (pv 0)) (pcl (by rfl) B.b_int (by decide +kernel))) (se_one (se_not (se_o (se_isi1 (k := .bool) (rest := []) (by rfl) B.b_isinstance (se_varO (pv 0)) (pcl (by rfl) B.b_bool (by decide +kernel))))))))
    ss_nil)
theorem sc_tuple_of : FnScope N_tuple_of ["thing"] (defScope st_tuple_of) := ⟨rfl, rfl, rfl, by decide +kernel, rfl, by decide +kernel, by decide +kernel⟩
theorem ok_tuple_of (B : Bt mg) (G : FnCx P w K mg base XC C k names) (fa : Addr) (cdv : Value) (A : Around) (outer : List Env) (s : Shared) (H : Hp) (E : XK) (hr : Room k (A.deeper (envOfC "tuple_of" (defScope st_tuple_of) s.heap.objs.size fa cdv))) :
    PSs (cxOf (L2.CX P w) P w K mg base N_tuple_of "tuple_of" (defScope st_tuple_of) fa cdv A outer s H E) (defBody st_tuple_of) (tSs K XC C (fun cls d _ H => E cls d H) fd_tuple_of.pw fd_tuple_of.body) := by
  have sc := sc_tuple_of
  have tk : Takes (cxOf (L2.CX P w) P w K mg base N_tuple_of "tuple_of" (defScope st_tuple_of) fa cdv A outer s H E) (fun cls d _ H => E cls d H) := takes_of rfl rfl rfl rfl
  exact (ss_cons (ss_if (st_e (se_o (se_isiT (cs := [.list, .tuple]) (by rfl) B.b_isinstance (se_varO (pv 0)) (pcls_cons (k := .list) (pcl (by rfl) B.b_list (by decide +kernel)) (pcls_cons (k := .tuple) (pcl (by rfl) B.b_tuple (by decide +kernel)) pcls_nil))))) (ss_cons (ss_ret (se_callTy pc_tuple (by rfl) B.b_tuple (by decide +kernel) (pas_cons (se_o (se_comp (own := [("part", 1)]) (tg := .nm 1) rfl sc.nd (si_val (se_var (pv 0))) (blkOk_by (N := N_tuple_of) (sc := (defScope st_tuple_of)) (by decide +kernel)) (fun _ _ _ _ _ => (sg_nm (pg_name (i := 1) sc.nd rfl (by first | exact Or.inl rfl | exact Or.inr rfl)))) (fun _ _ _ _ _ => sts_nil) (fun _ _ _ _ _ => (se_call (G.at_ 1 "tuple_of" rfl) hr (by rfl) takes0 (pra_cons (se_var (pv 1)) pra_nil))) (by decide))) pas_nil)))
    ss_nil) ss_nil)
    (ss_cons (ss_retV (pv 0))
    ss_nil))
theorem sc_is_tuple_of : FnScope N_is_tuple_of ["thing", "many"] (defScope st_is_tuple_of) := ⟨rfl, rfl, rfl, by decide +kernel, rfl, by decide +kernel, by decide +kernel⟩
theorem ok_is_tuple_of (B : Bt mg) (G : FnCx P w K mg base XC C k names) (fa : Addr) (cdv : Value) (A : Around) (outer : List Env) (s : Shared) (H : Hp) (E : XK) (hr : Room k (A.deeper (envOfC "is_tuple_of" (defScope st_is_tuple_of) s.heap.objs.size fa cdv))) :
    PSs (cxOf (L2.CX P w) P w K mg base N_is_tuple_of "is_tuple_of" (defScope st_is_tuple_of) fa cdv A outer s H E) (defBody st_is_tuple_of) (tSs K XC C (fun cls d _ H => E cls d H) fd_is_tuple_of.pw fd_is_tuple_of.body) := by
  have sc := sc_is_tuple_of
  have tk : Takes (cxOf (L2.CX P w) P w K mg base N_is_tuple_of "is_tuple_of" (defScope st_is_tuple_of) fa cdv A outer s H E) (fun cls d _ H => E cls d H) := takes_of rfl rfl rfl rfl
  exact (ss_cons (ss_ret (se_and (se_isi1 (k := .tuple) (rest := []) (by rfl) B.b_isinstance (se_varO (pv 0)) (pcl (by rfl) B.b_tuple (by decide +kernel))) (se_one (se_cmp (po_eq hr.units) (se_o (se_callB pc_len (by rfl) B.b_len (by decide +kernel) (pas_cons (se_varO (pv 0)) pas_nil))) (se_varO (pv 1))))))
    ss_nil)
theorem sc_is_letter : FnScope N_is_letter ["thing"] (defScope st_is_letter) := ⟨rfl, rfl, rfl, by decide +kernel, rfl, by decide +kernel, by decide +kernel⟩
theorem ok_is_letter (B : Bt mg) (G : FnCx P w K mg base XC C k names) (fa : Addr) (cdv : Value) (A : Around) (outer : List Env) (s : Shared) (H : Hp) (E : XK) (hr : Room k (A.deeper (envOfC "is_letter" (defScope st_is_letter) s.heap.objs.size fa cdv))) :
    PSs (cxOf (L2.CX P w) P w K mg base N_is_letter "is_letter" (defScope st_is_letter) fa cdv A outer s H E) (defBody st_is_letter) (tSs K XC C (fun cls d _ H => E cls d H) fd_is_letter.pw fd_is_letter.body) := by
  have sc := sc_is_letter
  have tk : Takes (cxOf (L2.CX P w) P w K mg base N_is_letter "is_letter" (defScope st_is_letter) fa cdv A outer s H E) (fun cls d _ H => E cls d H) := takes_of rfl rfl rfl rfl
  exact (ss_cons (ss_ret (se_and (se_call (G.at_ 0 "is_number" rfl) hr (by rfl) tk (pra_cons (se_var (pv 0)) pra_nil)) (se_one (se_cmp po_ge (se_varO (pv 0)) (se_o se_int)))))
    ss_nil)
theorem sc_is_word : FnScope N_is_word ["thing"] (defScope st_is_word) := ⟨rfl, rfl, rfl, by decide +kernel, rfl, by decide +kernel, by decide +kernel⟩
theorem ok_is_word (B : Bt mg) (G : FnCx P w K mg base XC C k names) (fa : Addr) (cdv : Value) (A : Around) (outer : List Env) (s : Shared) (H : Hp) (E : XK) (hr : Room k (A.deeper (envOfC "is_word" (defScope st_is_word) s.heap.objs.size fa cdv))) :
    PSs (cxOf (L2.CX P w) P w K mg base N_is_word "is_word" (defScope st_is_word) fa cdv A outer s H E) (defBody st_is_word) (tSs K XC C (fun cls d _ H => E cls d H) fd_is_word.pw fd_is_word.body) := by
  have sc := sc_is_word
  have tk : Takes (cxOf (L2.CX P w) P w K mg base N_is_word "is_word" (defScope st_is_word) fa cdv A outer s H E) (fun cls d _ H => E cls d H) := takes_of rfl rfl rfl rfl
  exact (ss_cons (ss_ret (se_and (se_isi1 (k := .tuple) (rest := []) (by rfl) B.b_isinstance (se_varO (pv 0)) (pcl (by rfl) B.b_tuple (by decide +kernel))) (se_one (se_callB (pc_all rfl) (by rfl) B.b_all (by decide +kernel) (pas_cons (se_o (se_comp (own := [("own", 1)]) (tg := .nm 1) rfl sc.nd (si_val (se_var (pv 0))) (blkOk_by (N := N_is_word) (sc := (defScope st_is_word)) (by decide +kernel)) (fun _ _ _ _ _ => (sg_nm (pg_name (i := 1) sc.nd rfl (by first | exact Or.inl rfl | exact Or.inr rfl)))) (fun _ _ _ _ _ => sts_nil) (fun _ _ _ _ _ => (se_call (G.at_ 3 "is_letter" rfl) hr (by rfl) takes0 (pra_cons (se_var (pv 1)) pra_nil))) (by decide))) pas_nil)))))
    ss_nil)
theorem sc_is_deed : FnScope N_is_deed ["thing"] (defScope st_is_deed) := ⟨rfl, rfl, rfl, by decide +kernel, rfl, by decide +kernel, by decide +kernel⟩
theorem ok_is_deed (B : Bt mg) (G : FnCx P w K mg base XC C k names) (fa : Addr) (cdv : Value) (A : Around) (outer : List Env) (s : Shared) (H : Hp) (E : XK) (hr : Room k (A.deeper (envOfC "is_deed" (defScope st_is_deed) s.heap.objs.size fa cdv))) :
    PSs (cxOf (L2.CX P w) P w K mg base N_is_deed "is_deed" (defScope st_is_deed) fa cdv A outer s H E) (defBody st_is_deed) (tSs K XC C (fun cls d _ H => E cls d H) fd_is_deed.pw fd_is_deed.body) := by
  have sc := sc_is_deed
  have tk : Takes (cxOf (L2.CX P w) P w K mg base N_is_deed "is_deed" (defScope st_is_deed) fa cdv A outer s H E) (fun cls d _ H => E cls d H) := takes_of rfl rfl rfl rfl
  exact (ss_cons (ss_if (st_e (se_o (se_call (G.at_ 2 "is_tuple_of" rfl) hr (by rfl) tk (pra_cons (se_var (pv 0)) (pra_cons se_int pra_nil))))) (ss_cons (ss_ret (se_and (se_isi1 (k := .str) (rest := []) (by rfl) B.b_isinstance (se_o (se_idx (se_varO (pv 0)) (se_o se_int))) (pcl (by rfl) B.b_str (by decide +kernel))) (se_one (se_cmp (po_eq hr.units) (se_o (se_idx (se_varO (pv 0)) (se_o se_int))) (se_o se_str)))))
    ss_nil) ss_nil)
    (ss_cons (ss_ret (se_and (se_call (G.at_ 2 "is_tuple_of" rfl) hr (by rfl) tk (pra_cons (se_var (pv 0)) (pra_cons se_int pra_nil))) (se_and (se_isi1 (k := .str) (rest := []) (by rfl) B.b_isinstance (se_o (se_idx (se_varO (pv 0)) (se_o se_int))) (pcl (by rfl) B.b_str (by decide +kernel))) (se_and (se_cmp (po_eq hr.units) (se_o (se_idx (se_varO (pv 0)) (se_o se_int))) (se_o se_str)) (se_one (se_call (G.at_ 3 "is_letter" rfl) hr (by rfl) tk (pra_cons (se_idx (se_varO (pv 0)) (se_o se_int)) pra_nil)))))))
    ss_nil))
theorem sc_is_history : FnScope N_is_history ["thing"] (defScope st_is_history) := ⟨rfl, rfl, rfl, by decide +kernel, rfl, by decide +kernel, by decide +kernel⟩
theorem ok_is_history (B : Bt mg) (G : FnCx P w K mg base XC C k names) (fa : Addr) (cdv : Value) (A : Around) (outer : List Env) (s : Shared) (H : Hp) (E : XK) (hr : Room k (A.deeper (envOfC "is_history" (defScope st_is_history) s.heap.objs.size fa cdv))) :
    PSs (cxOf (L2.CX P w) P w K mg base N_is_history "is_history" (defScope st_is_history) fa cdv A outer s H E) (defBody st_is_history) (tSs K XC C (fun cls d _ H => E cls d H) fd_is_history.pw fd_is_history.body) := by
  have sc := sc_is_history
  have tk : Takes (cxOf (L2.CX P w) P w K mg base N_is_history "is_history" (defScope st_is_history) fa cdv A outer s H E) (fun cls d _ H => E cls d H) := takes_of rfl rfl rfl rfl
  exact (ss_cons (ss_ret (se_and (se_isi1 (k := .tuple) (rest := []) (by rfl) B.b_isinstance (se_varO (pv 0)) (pcl (by rfl) B.b_tuple (by decide +kernel))) (se_one (se_callB (pc_all rfl) (by rfl) B.b_all (by decide +kernel) (pas_cons (se_o (se_comp (own := [("own", 1)]) (tg := .nm 1) rfl sc.nd (si_val (se_var (pv 0))) (blkOk_by (N := N_is_history) (sc := (defScope st_is_history)) (by decide +kernel)) (fun _ _ _ _ _ => (sg_nm (pg_name (i := 1) sc.nd rfl (by first | exact Or.inl rfl | exact Or.inr rfl)))) (fun _ _ _ _ _ => sts_nil) (fun _ _ _ _ _ => (se_call (G.at_ 5 "is_deed" rfl) hr (by rfl) takes0 (pra_cons (se_var (pv 1)) pra_nil))) (by decide))) pas_nil)))))
    ss_nil)
theorem sc_is_sound_in : FnScope N_is_sound_in ["history"] (defScope st_is_sound_in) := ⟨rfl, rfl, rfl, by decide +kernel, rfl, by decide +kernel, by decide +kernel⟩
theorem ok_is_sound_in (B : Bt mg) (G : FnCx P w K mg base XC C k names) (fa : Addr) (cdv : Value) (A : Around) (outer : List Env) (s : Shared) (H : Hp) (E : XK) (hr : Room k (A.deeper (envOfC "is_sound_in" (defScope st_is_sound_in) s.heap.objs.size fa cdv))) :
    PSs (cxOf (L2.CX P w) P w K mg base N_is_sound_in "is_sound_in" (defScope st_is_sound_in) fa cdv A outer s H E) (defBody st_is_sound_in) (tSs K XC C (fun cls d _ H => E cls d H) fd_is_sound_in.pw fd_is_sound_in.body) := by
  have sc := sc_is_sound_in
  have tk : Takes (cxOf (L2.CX P w) P w K mg base N_is_sound_in "is_sound_in" (defScope st_is_sound_in) fa cdv A outer s H E) (fun cls d _ H => E cls d H) := takes_of rfl rfl rfl rfl
  exact (ss_cons (ss_set (i := 1) sc.nd rfl (by first | exact Or.inl rfl | exact Or.inr rfl) se_int)
    (ss_cons (ss_for (passes_of rfl) rfl (si_val (se_var (pv 0))) (sg_nm (pg_name (i := 2) sc.nd rfl (by first | exact Or.inl rfl | exact Or.inr rfl))) (ss_cons (ss_set (i := 1) sc.nd rfl (by first | exact Or.inl rfl | exact Or.inr rfl) (se_ite (st_cmp (po_eq hr.units) hb_eq (se_o (se_idx (se_varO (pv 2)) (se_o se_int))) (se_o se_str)) (se_bin po_add (se_varO (pv 1)) (se_o se_int)) (se_bin po_sub (se_varO (pv 1)) (se_o se_int))))
    (ss_cons (ss_if (st_cmp po_lt hb_lt (se_varO (pv 1)) (se_o se_int)) (ss_cons (ss_ret se_bl)
    ss_nil) ss_nil)
    ss_nil)))
    (ss_cons (ss_ret se_bl)
    ss_nil)))
theorem sc_is_sound : FnScope N_is_sound ["history"] (defScope st_is_sound) := ⟨rfl, rfl, rfl, by decide +kernel, rfl, by decide +kernel, by decide +kernel⟩
theorem ok_is_sound (B : Bt mg) (G : FnCx P w K mg base XC C k names) (fa : Addr) (cdv : Value) (A : Around) (outer : List Env) (s : Shared) (H : Hp) (E : XK) (hr : Room k (A.deeper (envOfC "is_sound" (defScope st_is_sound) s.heap.objs.size fa cdv))) :
    PSs (cxOf (L2.CX P w) P w K mg base N_is_sound "is_sound" (defScope st_is_sound) fa cdv A outer s H E) (defBody st_is_sound) (tSs K XC C (fun cls d _ H => E cls d H) fd_is_sound.pw fd_is_sound.body) := by
  have sc := sc_is_sound
  have tk : Takes (cxOf (L2.CX P w) P w K mg base N_is_sound "is_sound" (defScope st_is_sound) fa cdv A outer s H E) (fun cls d _ H => E cls d H) := takes_of rfl rfl rfl rfl
  exact (ss_cons (ss_ret (se_call (G.at_ 7 "is_sound_in" rfl) hr (by rfl) tk (pra_cons (se_call (G.at_ 1 "tuple_of" rfl) hr (by rfl) tk (pra_cons (se_var (pv 0)) pra_nil)) pra_nil)))
    ss_nil)
theorem sc_histories_of : FnScope N_histories_of ["letters", "many"] (defScope st_histories_of) := ⟨rfl, rfl, rfl, by decide +kernel, rfl, by decide +kernel, by decide +kernel⟩
theorem ok_histories_of (B : Bt mg) (G : FnCx P w K mg base XC C k names) (fa : Addr) (cdv : Value) (A : Around) (outer : List Env) (s : Shared) (H : Hp) (E : XK) (hr : Room k (A.deeper (envOfC "histories_of" (defScope st_histories_of) s.heap.objs.size fa cdv))) :
    PSs (cxOf (L2.CX P w) P w K mg base N_histories_of "histories_of" (defScope st_histories_of) fa cdv A outer s H E) (defBody st_histories_of) (tSs K XC C (fun cls d _ H => E cls d H) fd_histories_of.pw fd_histories_of.body) := by
  have sc := sc_histories_of
  have tk : Takes (cxOf (L2.CX P w) P w K mg base N_histories_of "histories_of" (defScope st_histories_of) fa cdv A outer s H E) (fun cls d _ H => E cls d H) := takes_of rfl rfl rfl rfl
  exact (ss_cons (ss_set (i := 2) sc.nd rfl (by first | exact Or.inl rfl | exact Or.inr rfl) (se_lst (pfs_cons (se_tup (pfs_cons (se_tup pfs_nil) (pfs_cons se_int pfs_nil))) pfs_nil)))
    (ss_cons (ss_for (passes_of rfl) rfl (si_range1 (by rfl) B.b_range (pfs_cons (se_var (pv 1)) pfs_nil)) (sg_nm (pg_name (i := 3) sc.nd rfl (by first | exact Or.inl rfl | exact Or.inr rfl))) (ss_cons (ss_set (i := 4) sc.nd rfl (by first | exact Or.inl rfl | exact Or.inr rfl) (se_lst pfs_nil))
    (ss_cons (ss_for (passes_of rfl) rfl (si_val (se_var (pv 2))) (sg_tp rfl (sgs_cons (sg_nm (pg_name (i := 5) sc.nd rfl (by first | exact Or.inl rfl | exact Or.inr rfl))) (sgs_cons (sg_nm (pg_name (i := 6) sc.nd rfl (by first | exact Or.inl rfl | exact Or.inr rfl))) sgs_nil))) (ss_cons (ss_for (passes_of rfl) rfl (si_range2 (by rfl) B.b_range (pfs_cons se_int (pfs_cons (se_bin po_add (se_varO (pv 0)) (se_o se_int)) pfs_nil))) (sg_nm (pg_name (i := 7) sc.nd rfl (by first | exact Or.inl rfl | exact Or.inr rfl))) (ss_cons (ss_app (i := 4) (pv 4) (se_tup (pfs_cons (se_bin po_add (se_varO (pv 5)) (se_o (se_tup (pfs_cons (se_tup (pfs_cons se_str (pfs_cons (se_var (pv 7)) pfs_nil))) pfs_nil)))) (pfs_cons (se_bin po_add (se_varO (pv 6)) (se_o se_int)) pfs_nil))) (fun a b => ps_expr (pe_bm PySem.F.plainAttrs_list PySem.F.slot_list_append PySem.F.type_list_append mt_append a b)))
    ss_nil))
    (ss_cons (ss_if (st_cmp po_gt hb_gt (se_varO (pv 6)) (se_o se_int)) (ss_cons (ss_app (i := 4) (pv 4) (se_tup (pfs_cons (se_bin po_add (se_varO (pv 5)) (se_o (se_tup (pfs_cons (se_tup (pfs_cons se_str pfs_nil)) pfs_nil)))) (pfs_cons (se_bin po_sub (se_varO (pv 6)) (se_o se_int)) pfs_nil))) (fun a b => ps_expr (pe_bm PySem.F.plainAttrs_list PySem.F.slot_list_append PySem.F.type_list_append mt_append a b)))
    ss_nil) ss_nil)
    ss_nil)))
    (ss_cons (ss_set (i := 2) sc.nd rfl (by first | exact Or.inl rfl | exact Or.inr rfl) (se_var (pv 4)))
    ss_nil))))
    (ss_cons (ss_ret (se_comp (own := [("history", 5), ("_", 3)]) (tg := .tp [.nm 5, .nm 3]) rfl sc.nd (si_val (se_var (pv 2))) (blkOk_by (N := N_histories_of) (sc := (defScope st_histories_of)) (by decide +kernel)) (fun _ _ _ _ _ => (sg_tp rfl (sgs_cons (sg_nm (pg_name (i := 5) sc.nd rfl (by first | exact Or.inl rfl | exact Or.inr rfl))) (sgs_cons (sg_nm (pg_name (i := 3) sc.nd rfl (by first | exact Or.inl rfl | exact Or.inr rfl))) sgs_nil)))) (fun _ _ _ _ _ => sts_nil) (fun _ _ _ _ _ => (se_var (pv 5))) (by decide)))
    ss_nil)))
theorem sc__law_box : FnScope N__law_box ["script", "k"] (defScope st__law_box) := ⟨rfl, rfl, rfl, by decide +kernel, rfl, by decide +kernel, by decide +kernel⟩
theorem ok__law_box (B : Bt mg) (G : FnCx P w K mg base XC C k names) (fa : Addr) (cdv : Value) (A : Around) (outer : List Env) (s : Shared) (H : Hp) (E : XK) (hr : Room k (A.deeper (envOfC "_law_box" (defScope st__law_box) s.heap.objs.size fa cdv))) :
    PSs (cxOf (L2.CX P w) P w K mg base N__law_box "_law_box" (defScope st__law_box) fa cdv A outer s H E) (defBody st__law_box) (tSs K XC C (fun cls d _ H => E cls d H) fd__law_box.pw fd__law_box.body) := by
  have sc := sc__law_box
  have tk : Takes (cxOf (L2.CX P w) P w K mg base N__law_box "_law_box" (defScope st__law_box) fa cdv A outer s H E) (fun cls d _ H => E cls d H) := takes_of rfl rfl rfl rfl
  exact (ss_cons (ss_set (i := 2) sc.nd rfl (by first | exact Or.inl rfl | exact Or.inr rfl) (se_ite (st_cmp po_lt hb_lt (se_varO (pv 1)) (se_o (se_callB pc_len (by rfl) B.b_len (by decide +kernel) (pas_cons (se_varO (pv 0)) pas_nil)))) (se_idx (se_varO (pv 0)) (se_varO (pv 1))) se_int))
    (ss_cons (ss_ret (se_lst (pfs_cons (se_bin po_mul (se_o (se_callB pc_abs (by rfl) B.b_abs (by decide +kernel) (pas_cons (se_varO (pv 2)) pas_nil))) (se_o (se_callTy pc_int (by rfl) B.b_int (by decide +kernel) (pas_cons (se_o (se_cmp po_ge (se_o (se_callB pc_abs (by rfl) B.b_abs (by decide +kernel) (pas_cons (se_varO (pv 2)) pas_nil))) (se_o (se_bin po_pow (se_o se_int) (se_o se_int))))) pas_nil)))) (pfs_cons (se_bin po_add (se_o (se_bin po_add (se_o (se_bin po_mod (se_o (se_callTy pc_int (by rfl) B.b_int (by decide +kernel) (pas_cons (se_varO (pv 2)) pas_nil))) (se_o se_int))) (se_o (se_bin po_mul (se_o se_int) (se_varO (pv 1)))))) (se_o se_int)) (pfs_cons se_int pfs_nil)))))
    ss_nil))
theorem sc__law_take : FnScope N__law_take ["urn", "low_so"] (defScope st__law_take) := ⟨rfl, rfl, rfl, by decide +kernel, rfl, by decide +kernel, by decide +kernel⟩
theorem ok__law_take (B : Bt mg) (G : FnCx P w K mg base XC C k names) (fa : Addr) (cdv : Value) (A : Around) (outer : List Env) (s : Shared) (H : Hp) (E : XK) (hr : Room k (A.deeper (envOfC "_law_take" (defScope st__law_take) s.heap.objs.size fa cdv))) :
    PSs (cxOf (L2.CX P w) P w K mg base N__law_take "_law_take" (defScope st__law_take) fa cdv A outer s H E) (defBody st__law_take) (tSs K XC C (fun cls d _ H => E cls d H) fd__law_take.pw fd__law_take.body) := by
  have sc := sc__law_take
  have tk : Takes (cxOf (L2.CX P w) P w K mg base N__law_take "_law_take" (defScope st__law_take) fa cdv A outer s H E) (fun cls d _ H => E cls d H) := takes_of rfl rfl rfl rfl
  exact (ss_cons (ss_if (st_cmp po_gt hb_gt (se_o (se_idx (se_varO (pv 0)) (se_o se_int))) (se_o se_int)) (ss_cons (ss_set (i := 5) sc.nd rfl (by first | exact Or.inl rfl | exact Or.inr rfl) (se_bin po_mod (se_o (se_callTy pc_int (by rfl) B.b_int (by decide +kernel) (pas_cons (se_o (se_idx (se_varO (pv 0)) (se_o se_int))) pas_nil))) (se_varO (pv 1))))
    (ss_cons (ss_sti (i := 0) (pv 0) se_int (se_bin po_fdiv (se_o (se_idx (se_varO (pv 0)) (se_o se_int))) (se_varO (pv 1))) (fun a b => ps_asg a b) (fun a b => pg_sub a b set_list))
    (ss_cons (ss_retV (pv 5))
    ss_nil))) ss_nil)
    (ss_cons (ss_sti (i := 0) (pv 0) se_int (se_bin po_add (se_o (se_idx (se_varO (pv 0)) (se_o se_int))) (se_o se_int)) (fun a b => ps_asg a b) (fun a b => pg_sub a b set_list))
    (ss_cons (ss_set (i := 2) sc.nd rfl (by first | exact Or.inl rfl | exact Or.inr rfl) (se_bin po_mod (se_o (se_callTy pc_int (by rfl) B.b_int (by decide +kernel) (pas_cons (se_o (se_bin po_mul (se_o (se_bin po_add (se_o (se_idx (se_varO (pv 0)) (se_o se_int))) (se_o (se_bin po_mul (se_o se_int) (se_o (se_idx (se_varO (pv 0)) (se_o se_int))))))) (se_o (se_bin po_add (se_o se_int) (se_o (se_idx (se_varO (pv 0)) (se_o se_int))))))) pas_nil))) (se_o se_int)))
    (ss_cons (ss_set (i := 3) sc.nd rfl (by first | exact Or.inl rfl | exact Or.inr rfl) (se_bin po_add (se_o (se_bin po_mod (se_o (se_callTy pc_int (by rfl) B.b_int (by decide +kernel) (pas_cons (se_varO (pv 2)) pas_nil))) (se_o se_int))) (se_o se_int)))
    (ss_cons (ss_set (i := 4) sc.nd rfl (by first | exact Or.inl rfl | exact Or.inr rfl) (se_bin po_mod (se_o (se_callTy pc_int (by rfl) B.b_int (by decide +kernel) (pas_cons (se_o (se_bin po_mul (se_o (se_bin po_add (se_o (se_bin po_add (se_varO (pv 2)) (se_o (se_idx (se_varO (pv 0)) (se_o se_int))))) (se_o (se_bin po_fdiv (se_o (se_idx (se_varO (pv 0)) (se_o se_int))) (se_o se_int))))) (se_varO (pv 3)))) pas_nil))) (se_o se_int)))
    (ss_cons (ss_ret (se_bin po_mod (se_o (se_callTy pc_int (by rfl) B.b_int (by decide +kernel) (pas_cons (se_o (se_bin po_fdiv (se_o (se_bin po_mod (se_o (se_callTy pc_int (by rfl) B.b_int (by decide +kernel) (pas_cons (se_o (se_bin po_add (se_o (se_bin po_mul (se_varO (pv 4)) (se_o se_int))) (se_varO (pv 2)))) pas_nil))) (se_o se_int))) (se_o se_int))) pas_nil))) (se_varO (pv 1))))
    ss_nil))))))
theorem sc__law_cells : FnScope N__law_cells ["script", "top"] (defScope st__law_cells) := ⟨rfl, rfl, rfl, by decide +kernel, rfl, by decide +kernel, by decide +kernel⟩
theorem ok__law_cells (B : Bt mg) (G : FnCx P w K mg base XC C k names) (fa : Addr) (cdv : Value) (A : Around) (outer : List Env) (s : Shared) (H : Hp) (E : XK) (hr : Room k (A.deeper (envOfC "_law_cells" (defScope st__law_cells) s.heap.objs.size fa cdv))) :
    PSs (cxOf (L2.CX P w) P w K mg base N__law_cells "_law_cells" (defScope st__law_cells) fa cdv A outer s H E) (defBody st__law_cells) (tSs K XC C (fun cls d _ H => E cls d H) fd__law_cells.pw fd__law_cells.body) := by
  have sc := sc__law_cells
  have tk : Takes (cxOf (L2.CX P w) P w K mg base N__law_cells "_law_cells" (defScope st__law_cells) fa cdv A outer s H E) (fun cls d _ H => E cls d H) := takes_of rfl rfl rfl rfl
  exact (ss_cons (ss_set (i := 2) sc.nd rfl (by first | exact Or.inl rfl | exact Or.inr rfl) (se_or (se_callTy pc_list (by rfl) B.b_list (by decide +kernel) (pas_cons (se_o (se_sl (se_varO (pv 0)) sp_none (sp_some (se_var (pv 1))))) pas_nil)) (se_one (se_lst (pfs_cons se_int pfs_nil)))))
    (ss_cons (ss_for (passes_of rfl) rfl (si_enum (by rfl) B.b_enumerate (pfs_cons (se_sl (se_varO (pv 0)) (sp_some (se_var (pv 1))) (sp_some se_int)) pfs_nil)) (sg_tp rfl (sgs_cons (sg_nm (pg_name (i := 3) sc.nd rfl (by first | exact Or.inl rfl | exact Or.inr rfl))) (sgs_cons (sg_nm (pg_name (i := 4) sc.nd rfl (by first | exact Or.inl rfl | exact Or.inr rfl))) sgs_nil))) (ss_cons (ss_set (i := 5) sc.nd rfl (by first | exact Or.inl rfl | exact Or.inr rfl) (se_bin po_mod (se_o (se_callTy pc_int (by rfl) B.b_int (by decide +kernel) (pas_cons (se_varO (pv 3)) pas_nil))) (se_varO (pv 1))))
    (ss_cons (ss_sti (i := 2) (pv 2) (se_var (pv 5)) (se_bin po_add (se_o (se_idx (se_varO (pv 2)) (se_varO (pv 5)))) (se_o (se_bin po_mul (se_varO (pv 4)) (se_o (se_bin po_add (se_varO (pv 3)) (se_o se_int)))))) (fun a b => ps_asg a b) (fun a b => pg_sub a b set_list))
    ss_nil)))
    (ss_cons (ss_retV (pv 2))
    ss_nil)))
theorem sc__law_of : FnScope N__law_of ["urn", "goods"] (defScope st__law_of) := ⟨rfl, rfl, rfl, by decide +kernel, rfl, by decide +kernel, by decide +kernel⟩
theorem ok__law_of (B : Bt mg) (G : FnCx P w K mg base XC C k names) (fa : Addr) (cdv : Value) (A : Around) (outer : List Env) (s : Shared) (H : Hp) (E : XK) (hr : Room k (A.deeper (envOfC "_law_of" (defScope st__law_of) s.heap.objs.size fa cdv))) :
    PSs (cxOf (L2.CX P w) P w K mg base N__law_of "_law_of" (defScope st__law_of) fa cdv A outer s H E) (defBody st__law_of) (tSs K XC C (fun cls d _ H => E cls d H) fd__law_of.pw fd__law_of.body) := by
  have sc := sc__law_of
  have tk : Takes (cxOf (L2.CX P w) P w K mg base N__law_of "_law_of" (defScope st__law_of) fa cdv A outer s H E) (fun cls d _ H => E cls d H) := takes_of rfl rfl rfl rfl
  exact (ss_cons (ss_ret (se_idx (se_varO (pv 1)) (se_o (se_call (G.at_ 11 "_law_take" rfl) hr (by rfl) tk (pra_own (se_varO (pv 0)) (pra_cons (se_callB pc_len (by rfl) B.b_len (by decide +kernel) (pas_cons (se_varO (pv 1)) pas_nil)) pra_nil))))))
    ss_nil)
theorem sc__law_pick : FnScope N__law_pick ["tin", "goods", "count"] (defScope st__law_pick) := ⟨rfl, rfl, rfl, by decide +kernel, rfl, by decide +kernel, by decide +kernel⟩
theorem ok__law_pick (B : Bt mg) (G : FnCx P w K mg base XC C k names) (fa : Addr) (cdv : Value) (A : Around) (outer : List Env) (s : Shared) (H : Hp) (E : XK) (hr : Room k (A.deeper (envOfC "_law_pick" (defScope st__law_pick) s.heap.objs.size fa cdv))) :
    PSs (cxOf (L2.CX P w) P w K mg base N__law_pick "_law_pick" (defScope st__law_pick) fa cdv A outer s H E) (defBody st__law_pick) (tSs K XC C (fun cls d _ H => E cls d H) fd__law_pick.pw fd__law_pick.body) := by
  have sc := sc__law_pick
  have tk : Takes (cxOf (L2.CX P w) P w K mg base N__law_pick "_law_pick" (defScope st__law_pick) fa cdv A outer s H E) (fun cls d _ H => E cls d H) := takes_of rfl rfl rfl rfl
  exact (ss_cons (ss_par (i := 4) (j := 5) (D0 := True) (fun _ h => ps_par rfl sc.nd rfl rfl (by decide) rfl rfl h (by rfl)) (se_callTy pc_list (by rfl) B.b_list (by decide +kernel) (pas_cons (se_varO (pv 1)) pas_nil)) (se_lst pfs_nil))
    (ss_cons (ss_for (passes_of rfl) rfl (si_range1 (by rfl) B.b_range (pfs_cons (se_callB (pc_min2 rfl) (by rfl) B.b_min (by decide +kernel) (pas_cons (se_o (se_callTy pc_int (by rfl) B.b_int (by decide +kernel) (pas_cons (se_varO (pv 2)) pas_nil))) (pas_cons (se_o (se_callB pc_len (by rfl) B.b_len (by decide +kernel) (pas_cons (se_varO (pv 4)) pas_nil))) pas_nil))) pfs_nil)) (sg_nm (pg_name (i := 3) sc.nd rfl (by first | exact Or.inl rfl | exact Or.inr rfl))) (ss_cons (ss_app (i := 5) (pv 5) (se_popA (i := 4) (pv 4) (se_call (G.at_ 11 "_law_take" rfl) hr (by rfl) tk (pra_own (se_varO (pv 0)) (pra_cons (se_callB pc_len (by rfl) B.b_len (by decide +kernel) (pas_cons (se_varO (pv 4)) pas_nil)) pra_nil))) (fun a b => pe_bm PySem.F.plainAttrs_list PySem.F.slot_list_pop PySem.F.type_list_pop mt_popAt a b)) (fun a b => ps_expr (pe_bm PySem.F.plainAttrs_list PySem.F.slot_list_append PySem.F.type_list_append mt_append a b)))
    ss_nil))
    (ss_cons (ss_retV (pv 5))
    ss_nil)))
theorem sc__law_same : FnScope N__law_same ["got", "goal"] (defScope st__law_same) := ⟨rfl, rfl, rfl, by decide +kernel, rfl, by decide +kernel, by decide +kernel⟩
theorem ok__law_same (B : Bt mg) (G : FnCx P w K mg base XC C k names) (fa : Addr) (cdv : Value) (A : Around) (outer : List Env) (s : Shared) (H : Hp) (E : XK) (hr : Room k (A.deeper (envOfC "_law_same" (defScope st__law_same) s.heap.objs.size fa cdv))) :
    PSs (cxOf (L2.CX P w) P w K mg base N__law_same "_law_same" (defScope st__law_same) fa cdv A outer s H E) (defBody st__law_same) (tSs K XC C (fun cls d _ H => E cls d H) fd__law_same.pw fd__law_same.body) := by
  have sc := sc__law_same
  have tk : Takes (cxOf (L2.CX P w) P w K mg base N__law_same "_law_same" (defScope st__law_same) fa cdv A outer s H E) (fun cls d _ H => E cls d H) := takes_of rfl rfl rfl rfl
  exact (ss_cons (ss_if (st_e (se_o (se_isiT (cs := [.list, .tuple]) (by rfl) B.b_isinstance (se_varO (pv 1)) (pcls_cons (k := .list) (pcl (by rfl) B.b_list (by decide +kernel)) (pcls_cons (k := .tuple) (pcl (by rfl) B.b_tuple (by decide +kernel)) pcls_nil))))) (ss_cons (ss_if (PW.pt (sw_or (st_cmp (po_ne hr.units) hb_ne (se_o (se_isi1 (k := .list) (rest := []) (by rfl) B.b_isinstance (se_varO (pv 0)) (pcl (by rfl) B.b_list (by decide +kernel)))) (se_o (se_isi1 (k := .list) (rest := []) (by rfl) B.b_isinstance (se_varO (pv 1)) (pcl (by rfl) B.b_list (by decide +kernel))))) (sw_or1 (st_cmp (po_ne hr.units) hb_ne (se_o (se_isi1 (k := .tuple) (rest := []) (by rfl) B.b_isinstance (se_varO (pv 0)) (pcl (by rfl) B.b_tuple (by decide +kernel)))) (se_o (se_isi1 (k := .tuple) (rest := []) (by rfl) B.b_isinstance (se_varO (pv 1)) (pcl (by rfl) B.b_tuple (by decide +kernel)))))))) (ss_cons (ss_ret se_bl)
    ss_nil) ss_nil)
    (ss_cons (ss_ret (se_and (se_cmp (po_eq hr.units) (se_o (se_callB pc_len (by rfl) B.b_len (by decide +kernel) (pas_cons (se_varO (pv 0)) pas_nil))) (se_o (se_callB pc_len (by rfl) B.b_len (by decide +kernel) (pas_cons (se_varO (pv 1)) pas_nil)))) (se_one (se_callB (pc_all rfl) (by rfl) B.b_all (by decide +kernel) (pas_cons (se_o (se_comp (own := [("mine_so", 2), ("own", 3)]) (tg := .tp [.nm 2, .nm 3]) rfl sc.nd (si_zip (by rfl) B.b_zip (pfs_cons (se_var (pv 0)) (pfs_cons (se_var (pv 1)) pfs_nil))) (blkOk_by (N := N__law_same) (sc := (defScope st__law_same)) (by decide +kernel)) (fun _ _ _ _ _ => (sg_tp rfl (sgs_cons (sg_nm (pg_name (i := 2) sc.nd rfl (by first | exact Or.inl rfl | exact Or.inr rfl))) (sgs_cons (sg_nm (pg_name (i := 3) sc.nd rfl (by first | exact Or.inl rfl | exact Or.inr rfl))) sgs_nil)))) (fun _ _ _ _ _ => sts_nil) (fun _ _ _ _ _ => (se_call (G.at_ 15 "_law_same" rfl) hr (by rfl) takes0 (pra_cons (se_var (pv 2)) (pra_cons (se_var (pv 3)) pra_nil)))) (by decide))) pas_nil)))))
    ss_nil)) ss_nil)
    (ss_cons (ss_if (PW.pt (sw_or (st_cmp po_isN hb_isN (se_varO (pv 1)) (se_o se_non)) (sw_or1 (st_e (se_o (se_isiT (cs := [.bool, .str]) (by rfl) B.b_isinstance (se_varO (pv 1)) (pcls_cons (k := .bool) (pcl (by rfl) B.b_bool (by decide +kernel)) (pcls_cons (k := .str) (pcl (by rfl) B.b_str (by decide +kernel)) pcls_nil)))))))) (ss_cons (ss_ret (se_and (se_cmp (po_eq hr.units) (se_varO (pv 0)) (se_varO (pv 1))) (se_and (se_cmp (po_eq hr.units) (se_o (se_isi1 (k := .bool) (rest := []) (by rfl) B.b_isinstance (se_varO (pv 0)) (pcl (by rfl) B.b_bool (by decide +kernel)))) (se_o (se_isi1 (k := .bool) (rest := []) (by rfl) B.b_isinstance (se_varO (pv 1)) (pcl (by rfl) B.b_bool (by decide +kernel))))) (se_one (se_cmp (po_eq hr.units) (se_o (se_cmp po_isN (se_varO (pv 0)) (se_o se_non))) (se_o (se_cmp po_isN (se_varO (pv 1)) (se_o se_non))))))))
    ss_nil) ss_nil)
    (ss_cons (ss_ret (se_and (se_isi1 (k := .int) (rest := []) (by rfl) B.b_isinstance (se_varO (pv 0)) (pcl (by rfl) B.b_int (by decide +kernel))) (se_and (se_not (se_o (se_isi1 (k := .bool) (rest := []) (by rfl) B.b_isinstance (se_varO (pv 0)) (pcl (by rfl) B.b_bool (by decide +kernel))))) (se_one (se_cmp (po_eq hr.units) (se_varO (pv 0)) (se_varO (pv 1)))))))
    ss_nil)))
theorem sc__law_lists : FnScope N__law_lists ["matter"] (defScope st__law_lists) := ⟨rfl, rfl, rfl, by decide +kernel, rfl, by decide +kernel, by decide +kernel⟩
theorem ok__law_lists (B : Bt mg) (G : FnCx P w K mg base XC C k names) (fa : Addr) (cdv : Value) (A : Around) (outer : List Env) (s : Shared) (H : Hp) (E : XK) (hr : Room k (A.deeper (envOfC "_law_lists" (defScope st__law_lists) s.heap.objs.size fa cdv))) :
    PSs (cxOf (L2.CX P w) P w K mg base N__law_lists "_law_lists" (defScope st__law_lists) fa cdv A outer s H E) (defBody st__law_lists) (tSs K XC C (fun cls d _ H => E cls d H) fd__law_lists.pw fd__law_lists.body) := by
  have sc := sc__law_lists
  have tk : Takes (cxOf (L2.CX P w) P w K mg base N__law_lists "_law_lists" (defScope st__law_lists) fa cdv A outer s H E) (fun cls d _ H => E cls d H) := takes_of rfl rfl rfl rfl
  exact (ss_cons (ss_ret (se_ite (st_e (se_o (se_isiT (cs := [.list, .tuple]) (by rfl) B.b_isinstance (se_varO (pv 0)) (pcls_cons (k := .list) (pcl (by rfl) B.b_list (by decide +kernel)) (pcls_cons (k := .tuple) (pcl (by rfl) B.b_tuple (by decide +kernel)) pcls_nil))))) (se_comp (own := [("own", 1)]) (tg := .nm 1) rfl sc.nd (si_val (se_var (pv 0))) (blkOk_by (N := N__law_lists) (sc := (defScope st__law_lists)) (by decide +kernel)) (fun _ _ _ _ _ => (sg_nm (pg_name (i := 1) sc.nd rfl (by first | exact Or.inl rfl | exact Or.inr rfl)))) (fun _ _ _ _ _ => sts_nil) (fun _ _ _ _ _ => (se_call (G.at_ 16 "_law_lists" rfl) hr (by rfl) takes0 (pra_cons (se_var (pv 1)) pra_nil))) (by decide)) (se_var (pv 0))))
    ss_nil)
theorem sc__law_is_sound : FnScope N__law_is_sound ["history"] (defScope st__law_is_sound) := ⟨rfl, rfl, rfl, by decide +kernel, rfl, by decide +kernel, by decide +kernel⟩
theorem ok__law_is_sound (B : Bt mg) (G : FnCx P w K mg base XC C k names) (fa : Addr) (cdv : Value) (A : Around) (outer : List Env) (s : Shared) (H : Hp) (E : XK) (hr : Room k (A.deeper (envOfC "_law_is_sound" (defScope st__law_is_sound) s.heap.objs.size fa cdv))) :
    PSs (cxOf (L2.CX P w) P w K mg base N__law_is_sound "_law_is_sound" (defScope st__law_is_sound) fa cdv A outer s H E) (defBody st__law_is_sound) (tSs K XC C (fun cls d _ H => E cls d H) fd__law_is_sound.pw fd__law_is_sound.body) := by
  have sc := sc__law_is_sound
  have tk : Takes (cxOf (L2.CX P w) P w K mg base N__law_is_sound "_law_is_sound" (defScope st__law_is_sound) fa cdv A outer s H E) (fun cls d _ H => E cls d H) := takes_of rfl rfl rfl rfl
  exact (ss_cons (ss_set (i := 1) sc.nd rfl (by first | exact Or.inl rfl | exact Or.inr rfl) se_int)
    (ss_cons (ss_for (passes_of rfl) rfl (si_val (se_var (pv 0))) (sg_nm (pg_name (i := 2) sc.nd rfl (by first | exact Or.inl rfl | exact Or.inr rfl))) (ss_cons (ss_set (i := 1) sc.nd rfl (by first | exact Or.inl rfl | exact Or.inr rfl) (se_bin po_add (se_varO (pv 1)) (se_o (se_ite (st_cmp (po_eq hr.units) hb_eq (se_o (se_idx (se_varO (pv 2)) (se_o se_int))) (se_o se_str)) se_int (se_un po_neg (se_o se_int))))))
    (ss_cons (ss_if (st_cmp po_lt hb_lt (se_varO (pv 1)) (se_o se_int)) (ss_cons (ss_ret se_bl)
    ss_nil) ss_nil)
    ss_nil)))
    (ss_cons (ss_ret se_bl)
    ss_nil)))
theorem sc__law_all : FnScope N__law_all ["letters", "many"] (defScope st__law_all) := ⟨rfl, rfl, rfl, by decide +kernel, rfl, by decide +kernel, by decide +kernel⟩
theorem ok__law_all (B : Bt mg) (G : FnCx P w K mg base XC C k names) (fa : Addr) (cdv : Value) (A : Around) (outer : List Env) (s : Shared) (H : Hp) (E : XK) (hr : Room k (A.deeper (envOfC "_law_all" (defScope st__law_all) s.heap.objs.size fa cdv))) :
    PSs (cxOf (L2.CX P w) P w K mg base N__law_all "_law_all" (defScope st__law_all) fa cdv A outer s H E) (defBody st__law_all) (tSs K XC C (fun cls d _ H => E cls d H) fd__law_all.pw fd__law_all.body) := by
  have sc := sc__law_all
  have tk : Takes (cxOf (L2.CX P w) P w K mg base N__law_all "_law_all" (defScope st__law_all) fa cdv A outer s H E) (fun cls d _ H => E cls d H) := takes_of rfl rfl rfl rfl
  exact (ss_cons (ss_set (i := 2) sc.nd rfl (by first | exact Or.inl rfl | exact Or.inr rfl) (se_bin po_add (se_o (se_comp (own := [("letter", 7)]) (tg := .nm 7) rfl sc.nd (si_range2 (by rfl) B.b_range (pfs_cons se_int (pfs_cons (se_bin po_add (se_varO (pv 0)) (se_o se_int)) pfs_nil))) (blkOk_by (N := N__law_all) (sc := (defScope st__law_all)) (by decide +kernel)) (fun _ _ _ _ _ => (sg_nm (pg_name (i := 7) sc.nd rfl (by first | exact Or.inl rfl | exact Or.inr rfl)))) (fun _ _ _ _ _ => sts_nil) (fun _ _ _ _ _ => (se_tup (pfs_cons se_str (pfs_cons (se_var (pv 7)) pfs_nil)))) (by decide))) (se_o (se_lst (pfs_cons (se_tup (pfs_cons se_str pfs_nil)) pfs_nil)))))
    (ss_cons (ss_set (i := 3) sc.nd rfl (by first | exact Or.inl rfl | exact Or.inr rfl) (se_lst (pfs_cons (se_tup pfs_nil) pfs_nil)))
    (ss_cons (ss_for (passes_of rfl) rfl (si_range1 (by rfl) B.b_range (pfs_cons (se_var (pv 1)) pfs_nil)) (sg_nm (pg_name (i := 4) sc.nd rfl (by first | exact Or.inl rfl | exact Or.inr rfl))) (ss_cons (ss_set (i := 5) sc.nd rfl (by first | exact Or.inl rfl | exact Or.inr rfl) (se_lst pfs_nil))
    (ss_cons (ss_for (passes_of rfl) rfl (si_val (se_var (pv 3))) (sg_nm (pg_name (i := 6) sc.nd rfl (by first | exact Or.inl rfl | exact Or.inr rfl))) (ss_cons (ss_set (i := 5) sc.nd rfl (by first | exact Or.inl rfl | exact Or.inr rfl) (se_bin po_add (se_varO (pv 5)) (se_o (se_comp (own := [("deed", 8)]) (tg := .nm 8) rfl sc.nd (si_val (se_var (pv 2))) (blkOk_by (N := N__law_all) (sc := (defScope st__law_all)) (by decide +kernel)) (fun _ _ _ _ _ => (sg_nm (pg_name (i := 8) sc.nd rfl (by first | exact Or.inl rfl | exact Or.inr rfl)))) (fun _ _ _ _ _ => sts_nil) (fun _ _ _ _ _ => (se_bin po_add (se_varO (pv 6)) (se_o (se_tup (pfs_cons (se_var (pv 8)) pfs_nil))))) (by decide)))))
    ss_nil))
    (ss_cons (ss_set (i := 3) sc.nd rfl (by first | exact Or.inl rfl | exact Or.inr rfl) (se_var (pv 5)))
    ss_nil))))
    (ss_cons (ss_retV (pv 3))
    ss_nil))))
theorem sc__law_thing : FnScope N__law_thing ["tin"] (defScope st__law_thing) := ⟨rfl, rfl, rfl, by decide +kernel, rfl, by decide +kernel, by decide +kernel⟩
theorem ok__law_thing (B : Bt mg) (G : FnCx P w K mg base XC C k names) (fa : Addr) (cdv : Value) (A : Around) (outer : List Env) (s : Shared) (H : Hp) (E : XK) (hr : Room k (A.deeper (envOfC "_law_thing" (defScope st__law_thing) s.heap.objs.size fa cdv))) :
    PSs (cxOf (L2.CX P w) P w K mg base N__law_thing "_law_thing" (defScope st__law_thing) fa cdv A outer s H E) (defBody st__law_thing) (tSs K XC C (fun cls d _ H => E cls d H) fd__law_thing.pw fd__law_thing.body) := by
  have sc := sc__law_thing
  have tk : Takes (cxOf (L2.CX P w) P w K mg base N__law_thing "_law_thing" (defScope st__law_thing) fa cdv A outer s H E) (fun cls d _ H => E cls d H) := takes_of rfl rfl rfl rfl
  exact (ss_cons (ss_ret (se_call (G.at_ 13 "_law_of" rfl) hr (by rfl) tk (pra_own (se_varO (pv 0)) (pra_cons (se_lst (pfs_cons (se_tup (pfs_cons se_str (pfs_cons (se_call (G.at_ 13 "_law_of" rfl) hr (by rfl) tk (pra_own (se_varO (pv 0)) (pra_cons (se_lst (pfs_cons se_int (pfs_cons se_int (pfs_cons se_int (pfs_cons se_int (pfs_cons (se_un po_neg (se_o se_int)) (pfs_cons se_bl (pfs_cons se_non (pfs_cons se_str (pfs_cons (se_tup (pfs_cons se_int pfs_nil)) pfs_nil)))))))))) pra_nil))) pfs_nil))) (pfs_cons (se_tup (pfs_cons se_str pfs_nil)) (pfs_cons (se_tup (pfs_cons se_str (pfs_cons se_int pfs_nil))) (pfs_cons (se_lst (pfs_cons se_str (pfs_cons se_int pfs_nil))) (pfs_cons (se_tup (pfs_cons se_str (pfs_cons se_int pfs_nil))) (pfs_cons se_str (pfs_cons (se_tup (pfs_cons se_str pfs_nil)) (pfs_cons (se_tup pfs_nil) (pfs_cons se_non (pfs_cons se_int (pfs_cons (se_tup (pfs_cons se_str (pfs_cons se_int pfs_nil))) (pfs_cons (se_tup (pfs_cons (se_tup (pfs_cons se_str pfs_nil)) pfs_nil)) (pfs_cons (se_lst (pfs_cons se_str pfs_nil)) pfs_nil)))))))))))))) pra_nil))))
    ss_nil)
theorem sc__law_is_letter : FnScope N__law_is_letter ["matter"] (defScope st__law_is_letter) := ⟨rfl, rfl, rfl, by decide +kernel, rfl, by decide +kernel, by decide +kernel⟩
theorem ok__law_is_letter (B : Bt mg) (G : FnCx P w K mg base XC C k names) (fa : Addr) (cdv : Value) (A : Around) (outer : List Env) (s : Shared) (H : Hp) (E : XK) (hr : Room k (A.deeper (envOfC "_law_is_letter" (defScope st__law_is_letter) s.heap.objs.size fa cdv))) :
    PSs (cxOf (L2.CX P w) P w K mg base N__law_is_letter "_law_is_letter" (defScope st__law_is_letter) fa cdv A outer s H E) (defBody st__law_is_letter) (tSs K XC C (fun cls d _ H => E cls d H) fd__law_is_letter.pw fd__law_is_letter.body) := by
  have sc := sc__law_is_letter
  have tk : Takes (cxOf (L2.CX P w) P w K mg base N__law_is_letter "_law_is_letter" (defScope st__law_is_letter) fa cdv A outer s H E) (fun cls d _ H => E cls d H) := takes_of rfl rfl rfl rfl
  exact (ss_cons (ss_ret (se_and (se_isi1 (k := .int) (rest := []) (by rfl) B.b_isinstance (se_varO (pv 0)) (pcl (by rfl) B.b_int (by decide +kernel))) (se_and (se_not (se_o (se_isi1 (k := .bool) (rest := []) (by rfl) B.b_isinstance (se_varO (pv 0)) (pcl (by rfl) B.b_bool (by decide +kernel))))) (se_one (se_cmp po_gt (se_varO (pv 0)) (se_o se_int))))))
    ss_nil)
theorem sc__law_is_deed : FnScope N__law_is_deed ["matter"] (defScope st__law_is_deed) := ⟨rfl, rfl, rfl, by decide +kernel, rfl, by decide +kernel, by decide +kernel⟩
theorem ok__law_is_deed (B : Bt mg) (G : FnCx P w K mg base XC C k names) (fa : Addr) (cdv : Value) (A : Around) (outer : List Env) (s : Shared) (H : Hp) (E : XK) (hr : Room k (A.deeper (envOfC "_law_is_deed" (defScope st__law_is_deed) s.heap.objs.size fa cdv))) :
    PSs (cxOf (L2.CX P w) P w K mg base N__law_is_deed "_law_is_deed" (defScope st__law_is_deed) fa cdv A outer s H E) (defBody st__law_is_deed) (tSs K XC C (fun cls d _ H => E cls d H) fd__law_is_deed.pw fd__law_is_deed.body) := by
  have sc := sc__law_is_deed
  have tk : Takes (cxOf (L2.CX P w) P w K mg base N__law_is_deed "_law_is_deed" (defScope st__law_is_deed) fa cdv A outer s H E) (fun cls d _ H => E cls d H) := takes_of rfl rfl rfl rfl
  exact (ss_cons (ss_if (PW.pt (sw_or (st_not (st_e (se_o (se_isi1 (k := .tuple) (rest := []) (by rfl) B.b_isinstance (se_varO (pv 0)) (pcl (by rfl) B.b_tuple (by decide +kernel)))))) (sw_or (st_cmp (po_eq hr.units) hb_eq (se_varO (pv 0)) (se_o (se_tup pfs_nil))) (sw_or1 (st_not (st_e (se_o (se_isi1 (k := .str) (rest := []) (by rfl) B.b_isinstance (se_o (se_idx (se_varO (pv 0)) (se_o se_int))) (pcl (by rfl) B.b_str (by decide +kernel)))))))))) (ss_cons (ss_ret se_bl)
    ss_nil) ss_nil)
    (ss_cons (ss_ret (se_ite (st_cmp (po_ne hr.units) hb_ne (se_o (se_idx (se_varO (pv 0)) (se_o se_int))) (se_o se_str)) (se_cmp (po_eq hr.units) (se_varO (pv 0)) (se_o (se_tup (pfs_cons se_str pfs_nil)))) (se_and (se_cmp (po_eq hr.units) (se_o (se_callB pc_len (by rfl) B.b_len (by decide +kernel) (pas_cons (se_varO (pv 0)) pas_nil))) (se_o se_int)) (se_one (se_call (G.at_ 20 "_law_is_letter" rfl) hr (by rfl) tk (pra_cons (se_idx (se_varO (pv 0)) (se_o se_int)) pra_nil))))))
    ss_nil))
theorem sc__law_by_hand_right : FnScope N__law_by_hand_right [] (defScope st__law_by_hand_right) := ⟨rfl, rfl, rfl, by decide +kernel, rfl, by decide +kernel, by decide +kernel⟩
theorem ok__law_by_hand_right (B : Bt mg) (G : FnCx P w K mg base XC C k names) (fa : Addr) (cdv : Value) (A : Around) (outer : List Env) (s : Shared) (H : Hp) (E : XK) (hr : Room k (A.deeper (envOfC "_law_by_hand_right" (defScope st__law_by_hand_right) s.heap.objs.size fa cdv))) :
    PSs (cxOf (L2.CX P w) P w K mg base N__law_by_hand_right "_law_by_hand_right" (defScope st__law_by_hand_right) fa cdv A outer s H E) (defBody st__law_by_hand_right) (tSs K XC C (fun cls d _ H => E cls d H) fd__law_by_hand_right.pw fd__law_by_hand_right.body) := by
  have sc := sc__law_by_hand_right
  have tk : Takes (cxOf (L2.CX P w) P w K mg base N__law_by_hand_right "_law_by_hand_right" (defScope st__law_by_hand_right) fa cdv A outer s H E) (fun cls d _ H => E cls d H) := takes_of rfl rfl rfl rfl
  exact (ss_cons (ss_unp (se_tup (pfs_cons (se_tup (pfs_cons se_str (pfs_cons se_int pfs_nil))) (pfs_cons (se_tup (pfs_cons se_str pfs_nil)) pfs_nil))) (sg_tp rfl (sgs_cons (sg_nm (pg_name (i := 1) sc.nd rfl (by first | exact Or.inl rfl | exact Or.inr rfl))) (sgs_cons (sg_nm (pg_name (i := 2) sc.nd rfl (by first | exact Or.inl rfl | exact Or.inr rfl))) sgs_nil))))
    (ss_cons (ss_set (i := 0) sc.nd rfl (by first | exact Or.inl rfl | exact Or.inr rfl) (se_lst (pfs_cons (se_call (G.at_ 9 "histories_of" rfl) hr (by rfl) tk (pra_cons se_int (pra_cons se_int pra_nil))) (pfs_cons (se_call (G.at_ 8 "is_sound" rfl) hr (by rfl) tk (pra_cons (se_tup (pfs_cons (se_var (pv 2)) (pfs_cons (se_var (pv 1)) pfs_nil))) pra_nil)) (pfs_cons (se_call (G.at_ 5 "is_deed" rfl) hr (by rfl) tk (pra_cons (se_tup (pfs_cons se_str (pfs_cons se_bl pfs_nil))) pra_nil)) (pfs_cons (se_call (G.at_ 4 "is_word" rfl) hr (by rfl) tk (pra_cons (se_tup (pfs_cons se_int pfs_nil)) pra_nil)) (pfs_cons (se_call (G.at_ 6 "is_history" rfl) hr (by rfl) tk (pra_cons (se_tup (pfs_cons (se_var (pv 1)) (pfs_cons (se_tup (pfs_cons se_str (pfs_cons se_int pfs_nil))) pfs_nil))) pra_nil)) pfs_nil)))))))
    (ss_cons (ss_ret (se_call (G.at_ 15 "_law_same" rfl) hr (by rfl) tk (pra_cons (se_var (pv 0)) (pra_cons (se_lst (pfs_cons (se_lst (pfs_cons (se_tup (pfs_cons (se_var (pv 1)) (pfs_cons (se_var (pv 1)) pfs_nil))) (pfs_cons (se_tup (pfs_cons (se_var (pv 1)) (pfs_cons (se_var (pv 2)) pfs_nil))) pfs_nil))) (pfs_cons se_bl (pfs_cons se_bl (pfs_cons se_bl (pfs_cons se_bl pfs_nil)))))) pra_nil))))
    ss_nil)))
theorem sc__law_right : FnScope N__law_right ["tin"] (defScope st__law_right) := ⟨rfl, rfl, rfl, by decide +kernel, rfl, by decide +kernel, by decide +kernel⟩
theorem ok__law_right (B : Bt mg) (G : FnCx P w K mg base XC C k names) (fa : Addr) (cdv : Value) (A : Around) (outer : List Env) (s : Shared) (H : Hp) (E : XK) (hr : Room k (A.deeper (envOfC "_law_right" (defScope st__law_right) s.heap.objs.size fa cdv))) :
    PSs (cxOf (L2.CX P w) P w K mg base N__law_right "_law_right" (defScope st__law_right) fa cdv A outer s H E) (defBody st__law_right) (tSs K XC C (fun cls d _ H => E cls d H) fd__law_right.pw fd__law_right.body) := by
  have sc := sc__law_right
  have tk : Takes (cxOf (L2.CX P w) P w K mg base N__law_right "_law_right" (defScope st__law_right) fa cdv A outer s H E) (fun cls d _ H => E cls d H) := takes_of rfl rfl rfl rfl
  exact (ss_cons (ss_set (i := 1) sc.nd rfl (by first | exact Or.inl rfl | exact Or.inr rfl) (se_bin po_add (se_o se_int) (se_o (se_call (G.at_ 11 "_law_take" rfl) hr (by rfl) tk (pra_own (se_varO (pv 0)) (pra_cons se_int pra_nil))))))
    (ss_cons (ss_set (i := 2) sc.nd rfl (by first | exact Or.inl rfl | exact Or.inr rfl) (se_call (G.at_ 11 "_law_take" rfl) hr (by rfl) tk (pra_own (se_varO (pv 0)) (pra_cons (se_bin po_sub (se_o se_int) (se_varO (pv 1))) pra_nil))))
    (ss_cons (ss_set (i := 3) sc.nd rfl (by first | exact Or.inl rfl | exact Or.inr rfl) (se_call (G.at_ 18 "_law_all" rfl) hr (by rfl) tk (pra_cons (se_var (pv 1)) (pra_cons (se_var (pv 2)) pra_nil))))
    (ss_cons (ss_if (st_not (st_e (se_o (se_call (G.at_ 15 "_law_same" rfl) hr (by rfl) tk (pra_cons (se_call (G.at_ 9 "histories_of" rfl) hr (by rfl) tk (pra_cons (se_var (pv 1)) (pra_cons (se_var (pv 2)) pra_nil))) (pra_cons (se_comp (own := [("own", 10)]) (tg := .nm 10) rfl sc.nd (si_val (se_var (pv 3))) (blkOk_by (N := N__law_right) (sc := (defScope st__law_right)) (by decide +kernel)) (fun _ _ _ _ _ => (sg_nm (pg_name (i := 10) sc.nd rfl (by first | exact Or.inl rfl | exact Or.inr rfl)))) (fun _ _ _ _ _ => (sts_one (st_e (se_o (se_call (G.at_ 17 "_law_is_sound" rfl) hr (by rfl) takes0 (pra_cons (se_var (pv 10)) pra_nil)))))) (fun _ _ _ _ _ => (se_var (pv 10))) (by decide)) pra_nil)))))) (ss_cons (ss_ret se_bl)
    ss_nil) ss_nil)
    (ss_cons (ss_setC (i := 4) (own := [("lap", 9)]) (tg := .nm 9) rfl sc.nd rfl rfl (sw_true rfl rfl rfl (by decide +kernel)) (si_range1 (by rfl) B.b_range (pfs_cons se_int pfs_nil)) (blkOk_by (N := N__law_right) (sc := (defScope st__law_right)) (by decide +kernel)) (fun _ _ _ _ _ => (sg_nm (pg_name (i := 9) sc.nd rfl (by first | exact Or.inl rfl | exact Or.inr rfl)))) (fun _ _ _ _ _ => sts_nil) (fun _ _ _ _ _ => (se_call (G.at_ 13 "_law_of" rfl) hr (by rfl) takes0 (pra_own (se_varO (pv 0)) (pra_cons (se_var (pv 3)) pra_nil)))) (by decide))
    (ss_cons (ss_if (st_not (st_e (se_o (se_call (G.at_ 15 "_law_same" rfl) hr (by rfl) tk (pra_cons (se_comp (own := [("own", 10)]) (tg := .nm 10) rfl sc.nd (si_val (se_var (pv 4))) (blkOk_by (N := N__law_right) (sc := (defScope st__law_right)) (by decide +kernel)) (fun _ _ _ _ _ => (sg_nm (pg_name (i := 10) sc.nd rfl (by first | exact Or.inl rfl | exact Or.inr rfl)))) (fun _ _ _ _ _ => sts_nil) (fun _ _ _ _ _ => (se_call (G.at_ 8 "is_sound" rfl) hr (by rfl) takes0 (pra_cons (se_var (pv 10)) pra_nil))) (by decide)) (pra_cons (se_comp (own := [("own", 10)]) (tg := .nm 10) rfl sc.nd (si_val (se_var (pv 4))) (blkOk_by (N := N__law_right) (sc := (defScope st__law_right)) (by decide +kernel)) (fun _ _ _ _ _ => (sg_nm (pg_name (i := 10) sc.nd rfl (by first | exact Or.inl rfl | exact Or.inr rfl)))) (fun _ _ _ _ _ => sts_nil) (fun _ _ _ _ _ => (se_call (G.at_ 17 "_law_is_sound" rfl) hr (by rfl) takes0 (pra_cons (se_var (pv 10)) pra_nil))) (by decide)) pra_nil)))))) (ss_cons (ss_ret se_bl)
    ss_nil) ss_nil)
    (ss_cons (ss_set (i := 5) sc.nd rfl (by first | exact Or.inl rfl | exact Or.inr rfl) (se_comp (own := [("lap", 9)]) (tg := .nm 9) rfl sc.nd (si_range1 (by rfl) B.b_range (pfs_cons se_int pfs_nil)) (blkOk_by (N := N__law_right) (sc := (defScope st__law_right)) (by decide +kernel)) (fun _ _ _ _ _ => (sg_nm (pg_name (i := 9) sc.nd rfl (by first | exact Or.inl rfl | exact Or.inr rfl)))) (fun _ _ _ _ _ => sts_nil) (fun _ _ _ _ _ => (se_call (G.at_ 19 "_law_thing" rfl) hr (by rfl) takes0 (pra_own (se_varO (pv 0)) pra_nil))) (by decide)))
    (ss_cons (ss_if (st_not (st_e (se_o (se_call (G.at_ 15 "_law_same" rfl) hr (by rfl) tk (pra_cons (se_comp (own := [("own", 10)]) (tg := .nm 10) rfl sc.nd (si_val (se_var (pv 5))) (blkOk_by (N := N__law_right) (sc := (defScope st__law_right)) (by decide +kernel)) (fun _ _ _ _ _ => (sg_nm (pg_name (i := 10) sc.nd rfl (by first | exact Or.inl rfl | exact Or.inr rfl)))) (fun _ _ _ _ _ => sts_nil) (fun _ _ _ _ _ => (se_call (G.at_ 5 "is_deed" rfl) hr (by rfl) takes0 (pra_cons (se_var (pv 10)) pra_nil))) (by decide)) (pra_cons (se_comp (own := [("own", 10)]) (tg := .nm 10) rfl sc.nd (si_val (se_var (pv 5))) (blkOk_by (N := N__law_right) (sc := (defScope st__law_right)) (by decide +kernel)) (fun _ _ _ _ _ => (sg_nm (pg_name (i := 10) sc.nd rfl (by first | exact Or.inl rfl | exact Or.inr rfl)))) (fun _ _ _ _ _ => sts_nil) (fun _ _ _ _ _ => (se_call (G.at_ 21 "_law_is_deed" rfl) hr (by rfl) takes0 (pra_cons (se_var (pv 10)) pra_nil))) (by decide)) pra_nil)))))) (ss_cons (ss_ret se_bl)
    ss_nil) ss_nil)
    (ss_cons (ss_set (i := 6) sc.nd rfl (by first | exact Or.inl rfl | exact Or.inr rfl) (se_bin po_add (se_o (se_comp (own := [("lap", 9)]) (tg := .nm 9) rfl sc.nd (si_range1 (by rfl) B.b_range (pfs_cons se_int pfs_nil)) (blkOk_by (N := N__law_right) (sc := (defScope st__law_right)) (by decide +kernel)) (fun _ _ _ _ _ => (sg_nm (pg_name (i := 9) sc.nd rfl (by first | exact Or.inl rfl | exact Or.inr rfl)))) (fun _ _ _ _ _ => sts_nil) (fun _ _ _ _ _ => (se_callTy pc_tuple (by rfl) B.b_tuple (by decide +kernel) (pas_cons (se_o (se_call (G.at_ 14 "_law_pick" rfl) hr (by rfl) takes0 (pra_own (se_varO (pv 0)) (pra_cons (se_var (pv 5)) (pra_cons (se_call (G.at_ 11 "_law_take" rfl) hr (by rfl) takes0 (pra_own (se_varO (pv 0)) (pra_cons se_int pra_nil))) pra_nil))))) pas_nil))) (by decide))) (se_o (se_lst (pfs_cons (se_sl (se_varO (pv 5)) sp_none (sp_some se_int)) (pfs_cons (se_idx (se_varO (pv 5)) (se_o se_int)) pfs_nil))))))
    (ss_cons (ss_setC (i := 7) (own := [("own", 10)]) (tg := .nm 10) rfl sc.nd rfl rfl (sw_true rfl rfl rfl (by decide +kernel)) (si_val (se_var (pv 6))) (blkOk_by (N := N__law_right) (sc := (defScope st__law_right)) (by decide +kernel)) (fun _ _ _ _ _ => (sg_nm (pg_name (i := 10) sc.nd rfl (by first | exact Or.inl rfl | exact Or.inr rfl)))) (fun _ _ _ _ _ => sts_nil) (fun _ _ _ _ _ => (se_and (se_isi1 (k := .tuple) (rest := []) (by rfl) B.b_isinstance (se_varO (pv 10)) (pcl (by rfl) B.b_tuple (by decide +kernel))) (se_one (se_cmp (po_eq hr.units) (se_o (se_comp (own := [("its", 11)]) (tg := .nm 11) rfl sc.nd (si_val (se_var (pv 10))) (blkOk_by (by rfl)) (fun _ _ _ _ _ => (sg_nm (pg_name (i := 11) sc.nd rfl (by first | exact Or.inl rfl | exact Or.inr rfl)))) (fun _ _ _ _ _ => (sts_one (st_not (st_e (se_o (se_call (G.at_ 21 "_law_is_deed" rfl) hr (by rfl) takes0 (pra_cons (se_var (pv 11)) pra_nil))))))) (fun _ _ _ _ _ => se_int) (by decide))) (se_o (se_lst pfs_nil)))))) (by decide))
    (ss_cons (ss_if (st_not (st_e (se_o (se_call (G.at_ 15 "_law_same" rfl) hr (by rfl) tk (pra_cons (se_comp (own := [("own", 10)]) (tg := .nm 10) rfl sc.nd (si_val (se_var (pv 6))) (blkOk_by (N := N__law_right) (sc := (defScope st__law_right)) (by decide +kernel)) (fun _ _ _ _ _ => (sg_nm (pg_name (i := 10) sc.nd rfl (by first | exact Or.inl rfl | exact Or.inr rfl)))) (fun _ _ _ _ _ => sts_nil) (fun _ _ _ _ _ => (se_call (G.at_ 6 "is_history" rfl) hr (by rfl) takes0 (pra_cons (se_var (pv 10)) pra_nil))) (by decide)) (pra_cons (se_var (pv 7)) pra_nil)))))) (ss_cons (ss_ret se_bl)
    ss_nil) ss_nil)
    (ss_cons (ss_set (i := 8) sc.nd rfl (by first | exact Or.inl rfl | exact Or.inr rfl) (se_bin po_add (se_o (se_comp (own := [("own", 10)]) (tg := .nm 10) rfl sc.nd (si_range1 (by rfl) B.b_range (pfs_cons se_int pfs_nil)) (blkOk_by (N := N__law_right) (sc := (defScope st__law_right)) (by decide +kernel)) (fun _ _ _ _ _ => (sg_nm (pg_name (i := 10) sc.nd rfl (by first | exact Or.inl rfl | exact Or.inr rfl)))) (fun _ _ _ _ _ => sts_nil) (fun _ _ _ _ _ => (se_callTy pc_tuple (by rfl) B.b_tuple (by decide +kernel) (pas_cons (se_o (se_comp (own := [("lap", 9)]) (tg := .nm 9) rfl sc.nd (si_range1 (by rfl) B.b_range (pfs_cons (se_call (G.at_ 11 "_law_take" rfl) hr (by rfl) takes0 (pra_own (se_varO (pv 0)) (pra_cons se_int pra_nil))) pfs_nil)) (blkOk_by (by rfl)) (fun _ _ _ _ _ => (sg_nm (pg_name (i := 9) sc.nd rfl (by first | exact Or.inl rfl | exact Or.inr rfl)))) (fun _ _ _ _ _ => sts_nil) (fun _ _ _ _ _ => (se_call (G.at_ 13 "_law_of" rfl) hr (by rfl) takes0 (pra_own (se_varO (pv 0)) (pra_cons (se_lst (pfs_cons se_int (pfs_cons se_int (pfs_cons se_int (pfs_cons se_int (pfs_cons se_int (pfs_cons se_bl (pfs_cons se_non (pfs_cons se_str pfs_nil))))))))) pra_nil)))) (by decide))) pas_nil))) (by decide))) (se_o (se_lst (pfs_cons (se_lst (pfs_cons se_int pfs_nil)) (pfs_cons se_int pfs_nil))))))
    (ss_cons (ss_ret (se_call (G.at_ 15 "_law_same" rfl) hr (by rfl) tk (pra_cons (se_comp (own := [("own", 10)]) (tg := .nm 10) rfl sc.nd (si_val (se_var (pv 8))) (blkOk_by (N := N__law_right) (sc := (defScope st__law_right)) (by decide +kernel)) (fun _ _ _ _ _ => (sg_nm (pg_name (i := 10) sc.nd rfl (by first | exact Or.inl rfl | exact Or.inr rfl)))) (fun _ _ _ _ _ => sts_nil) (fun _ _ _ _ _ => (se_call (G.at_ 4 "is_word" rfl) hr (by rfl) takes0 (pra_cons (se_var (pv 10)) pra_nil))) (by decide)) (pra_cons (se_comp (own := [("own", 10)]) (tg := .nm 10) rfl sc.nd (si_val (se_var (pv 8))) (blkOk_by (N := N__law_right) (sc := (defScope st__law_right)) (by decide +kernel)) (fun _ _ _ _ _ => (sg_nm (pg_name (i := 10) sc.nd rfl (by first | exact Or.inl rfl | exact Or.inr rfl)))) (fun _ _ _ _ _ => sts_nil) (fun _ _ _ _ _ => (se_and (se_isi1 (k := .tuple) (rest := []) (by rfl) B.b_isinstance (se_varO (pv 10)) (pcl (by rfl) B.b_tuple (by decide +kernel))) (se_one (se_cmp (po_eq hr.units) (se_o (se_comp (own := [("its", 11)]) (tg := .nm 11) rfl sc.nd (si_val (se_var (pv 10))) (blkOk_by (by rfl)) (fun _ _ _ _ _ => (sg_nm (pg_name (i := 11) sc.nd rfl (by first | exact Or.inl rfl | exact Or.inr rfl)))) (fun _ _ _ _ _ => (sts_one (st_not (st_e (se_o (se_call (G.at_ 20 "_law_is_letter" rfl) hr (by rfl) takes0 (pra_cons (se_var (pv 11)) pra_nil))))))) (fun _ _ _ _ _ => se_int) (by decide))) (se_o (se_lst pfs_nil)))))) (by decide)) pra_nil))))
    ss_nil)))))))))))))
theorem sc_law : FnScope N_law ["script"] (defScope st_law) := ⟨rfl, rfl, rfl, by decide +kernel, rfl, by decide +kernel, by decide +kernel⟩
theorem ok_law (B : Bt mg) (G : FnCx P w K mg base XC C k names) (fa : Addr) (cdv : Value) (A : Around) (outer : List Env) (s : Shared) (H : Hp) (E : XK) (hr : Room k (A.deeper (envOfC "law" (defScope st_law) s.heap.objs.size fa cdv))) :
    PSs (cxOf (L2.CX P w) P w K mg base N_law "law" (defScope st_law) fa cdv A outer s H E) (defBody st_law) (tSs K XC C (fun cls d _ H => E cls d H) fd_law.pw fd_law.body) := by
  have sc := sc_law
  have tk : Takes (cxOf (L2.CX P w) P w K mg base N_law "law" (defScope st_law) fa cdv A outer s H E) (fun cls d _ H => E cls d H) := takes_of rfl rfl rfl rfl
  exact (ss_cons (ss_if (st_not (st_e (se_o (se_call0 (G.at_ 22 "_law_by_hand_right" rfl) hr (by rfl) tk)))) (ss_cons (ss_ret se_bl)
    ss_nil) ss_nil)
    (ss_cons (ss_ret (se_call (G.at_ 23 "_law_right" rfl) hr (by rfl) tk (pra_own (se_o (se_call (G.at_ 10 "_law_box" rfl) hr (by rfl) tk (pra_cons (se_call (G.at_ 12 "_law_cells" rfl) hr (by rfl) tk (pra_cons (se_var (pv 0)) (pra_cons se_int pra_nil))) (pra_cons se_int pra_nil)))) pra_nil)))
    ss_nil))
end

end K02

end

section
set_option maxRecDepth 100000
set_option maxHeartbeats 4000000
/-! K02, the plain law. -/
namespace K02
open PI
abbrev C58 : Calls := run tbl 58
/-- a truth value handed back -/
def bOf : CRes → Option Bool
  | .ok (.fz (.bl b)) [.un] => some b
  | _ => none
theorem bOf_some {r : CRes} {b : Bool} (h : bOf r = some b) : r = .ok (.fz (.bl b)) [.un] := by
  unfold bOf at h
  split at h
  · cases h; rfl
  · cases h
def isTrue2 : CRes → Bool
  | .ok (.fz (.bl true)) [.un, .un] => true
  | _ => false
theorem isTrue2_eq {r : CRes} (h : isTrue2 r = true) : r = .ok (.fz (.bl true)) [.un, .un] := by
  unfold isTrue2 at h
  split at h
  · rfl
  · cases h
def lstOf : CRes → Option (List D)
  | .ok (.ow (.lst r)) [.un, .un] => some r
  | .ok (.fz (.lst r)) [.un, .un] => some r
  | _ => none
theorem lstOf_some {r : CRes} {xs : List D} (h : lstOf r = some xs) : r = .ok (.ow (.lst xs)) [.un, .un] ∨ r = .ok (.fz (.lst xs)) [.un, .un] := by
  unfold lstOf at h
  split at h
  · cases h; exact .inl rfl
  · cases h; exact .inr rfl
  · cases h
def isB (o : Option Bool) : Bool := o.isSome
/-- both readings of soundness give one truth value -/
def sb (d : D) : Bool := (bOf (C58 17 [.fz d])).getD false
def sndOk (d : D) : Bool := match bOf (C58 17 [.fz d]), bOf (C58 8 [.fz d]) with
  | some a, some b => a == b
  | _, _ => false
def comboOk (l m : Int) : Bool := match lstOf (C58 18 [.fz (.int l), .fz (.int m)]), lstOf (C58 9 [.fz (.int l), .fz (.int m)]) with
  | some rows, some hs => !rows.isEmpty && decide (rows.length < 1000) && rows.all sndOk && isTrue2 (C58 15 [.fz (.lst hs), .fz (.lst (rows.filter sb))])
  | _, _ => false
theorem combos : (comboOk 1 0 && comboOk 1 1 && comboOk 1 2 && comboOk 1 3 && comboOk 1 4 && comboOk 2 0 && comboOk 2 1 && comboOk 2 2 && comboOk 2 3 && comboOk 3 0 && comboOk 3 1 && comboOk 3 2) = true := by kernel_rfl
theorem by_hand : C58 22 [] = .ok (.fz (.bl true)) [] := by kernel_rfl
/-- the things near DEEDS -/
def inner : List D := [.int 1, .int 2, .int 7, .int 0, .int (-1), .bl true, .non, .str (PySem.Str.ofString "1"), .tup [.int 1]]
def outer (g : D) : List D := [.tup [.str (PySem.Str.ofString "in"), g], .tup [.str (PySem.Str.ofString "out")], .tup [.str (PySem.Str.ofString "in"), .int 3], .lst [.str (PySem.Str.ofString "in"), .int 1], .tup [.str (PySem.Str.ofString "out"), .int 1], .str (PySem.Str.ofString "out"), .tup [.str (PySem.Str.ofString "in")], .tup [], .non, .int 4, .tup [.str (PySem.Str.ofString "IN"), .int 2], .tup [.tup [.str (PySem.Str.ofString "out")]], .lst [.str (PySem.Str.ofString "out")]]
def things : List D := inner.flatMap outer
def words : List D := [.int 1, .int 2, .int 3, .int 9, .int 0, .bl true, .non, .str (PySem.Str.ofString "a")]
def db (d : D) : Bool := (bOf (run tbl 58 21 [.fz d])).getD false
def okEl (d : D) : Bool := bOf (run tbl 57 5 [.fz d]) == some (db d) && bOf (run tbl 58 5 [.fz d]) == some (db d) && bOf (run tbl 58 21 [.fz d]) == some (db d)
def goodD : D → Bool
  | .tup xs => decide (xs.length ≤ 1000) && xs.all okEl
  | .lst _ => true
  | .int _ => true
  | .str _ => true
  | .bl _ => true
  | .non => true
  | _ => false
theorem things_ok : things.all (fun d => okEl d && goodD d) = true := by kernel_rfl
def lb (d : D) : Bool := (bOf (run tbl 58 20 [.fz d])).getD false
def okW (d : D) : Bool := bOf (run tbl 57 3 [.fz d]) == some (lb d) && bOf (run tbl 58 20 [.fz d]) == some (lb d)
theorem words_ok : words.all okW = true := by kernel_rfl
end K02

end

section
set_option maxRecDepth 100000
set_option maxHeartbeats 4000000
namespace K02
open PI
theorem all_mem {α : Type} {p : α → Bool} {xs : List α} (h : xs.all p = true) {x : α} (hx : x ∈ xs) : p x = true := List.all_eq_true.mp h x hx
theorem okEl_57 {d : D} (h : okEl d = true) : run tbl 57 5 [.fz d] = .ok (.fz (.bl (db d))) [.un] := by
  unfold okEl at h; simp only [Bool.and_eq_true, beq_iff_eq] at h; exact bOf_some h.1.1
theorem okEl_58 {d : D} (h : okEl d = true) : run tbl 58 5 [.fz d] = .ok (.fz (.bl (db d))) [.un] := by
  unfold okEl at h; simp only [Bool.and_eq_true, beq_iff_eq] at h; exact bOf_some h.1.2
theorem okEl_own {d : D} (h : okEl d = true) : run tbl 58 21 [.fz d] = .ok (.fz (.bl (db d))) [.un] := by
  unfold okEl at h; simp only [Bool.and_eq_true, beq_iff_eq] at h; exact bOf_some h.2
theorem okW_57 {d : D} (h : okW d = true) : run tbl 57 3 [.fz d] = .ok (.fz (.bl (lb d))) [.un] := by
  unfold okW at h; simp only [Bool.and_eq_true, beq_iff_eq] at h; exact bOf_some h.1
theorem okW_own {d : D} (h : okW d = true) : run tbl 58 20 [.fz d] = .ok (.fz (.bl (lb d))) [.un] := by
  unfold okW at h; simp only [Bool.and_eq_true, beq_iff_eq] at h; exact bOf_some h.2
/-! ### draws -/
theorem take58 {b : Nat} {low : Int} {u : D} (h : Urn b u) (hb : 1 ≤ b) (h0 : 0 < low) (h1 : low < 2 ^ 29) :
    ∃ (r : Int) (u' : D), C58 11 [.ow u, .fz (.int low)] = .ok (.fz (.int r)) [.ow u', .un] ∧ 0 ≤ r ∧ r < low ∧ Urn (b - 1) u' := take_ok (tbl := tbl) (t := 11) rfl 57 h hb h0 h1
theorem of58 {b : Nat} {u : D} {gs : List D} (h : Urn b u) (hb : 1 ≤ b) (h0 : gs ≠ []) (h1 : gs.length < 2 ^ 29) :
    ∃ (g u' : D), C58 13 [.ow u, .fz (.lst gs)] = .ok (.fz g) [.ow u', .un] ∧ g ∈ gs ∧ Urn (b - 1) u' := of_ok (tbl := tbl) (t := 11) (o := 13) rfl rfl 56 (.inl rfl) h hb h0 h1
theorem thing58 {b : Nat} {u : D} (h : Urn b u) (hb : 2 ≤ b) : ∃ (g u' : D), C58 19 [.ow u] = .ok (.fz g) [.ow u'] ∧ g ∈ things ∧ Urn (b - 2) u' := by
  obtain ⟨g, u1, e1, m1, h1⟩ := of_ok (tbl := tbl) (t := 11) (o := 13) rfl rfl 55 (goods := .lst inner) (gs := inner) (.inl rfl) h (by omega) (by decide) (by decide)
  obtain ⟨g2, u2, e2, m2, h2⟩ := of_ok (tbl := tbl) (t := 11) (o := 13) rfl rfl 55 (goods := .lst (outer g)) (gs := outer g) (.inl rfl) h1 (by omega) (by simp [outer]) (by simp [outer])
  refine ⟨g2, u2, ?_, List.mem_flatMap.mpr ⟨g, m1, m2⟩, h2.mono (by omega)⟩
  show run tbl (57 + 1) 19 [.ow u] = _
  rw [run_def (fd := fd__law_thing) rfl rfl]
  simp [inner, outer] at e1 e2
  simp [fd__law_thing, lstR, tupR, szl, e1, e2, outsOf, List.range_succ]
/-! ### a comprehension of draws -/
theorem draws {own : List Nat} {i : Nat} {m : En → Res D} {xs : List D} (P : D → Prop) (mk : D → Ent → En) (cost : Nat) (hmk : ∀ u x, wipeE (mk u x) own = mk u .un) (hown : own = [i]) (hset : ∀ u x, (mk u .un).set i (.fz x) = mk u (.fz x))
    (hm : ∀ u b x, Urn b u → cost ≤ b → ∃ d u', m (mk u (.fz x)) = .ok d (mk u' (.fz x)) ∧ P d ∧ Urn (b - cost) u') (C : Calls) {b : Nat} {u : D} (hu : Urn b u) (hb : cost * xs.length ≤ b) (hz : xs.length ≤ 1000) :
    ∃ ds u' x', compLoop (.nm i) own (evTs C []) m xs [] (mk u .un) = .ok ds (mk u' x') ∧ (∀ d ∈ ds, P d) ∧ ds.length = xs.length ∧ Urn (b - cost * xs.length) u' := by
  have := compLoop_inv (tg := .nm i) (own := own) (t := evTs C []) (m := m) (fun rest acc e => ∃ u x, e = mk u x ∧ Urn (b - cost * acc.length) u ∧ (∀ d ∈ acc, P d) ∧ acc.length + rest.length = xs.length) (fun x rest acc e => by
    rintro ⟨u, y, rfl, hu, ha, hl⟩
    simp only [List.length_cons] at hl
    have hc : cost * acc.length + cost ≤ cost * xs.length := by
      rw [← Nat.mul_succ]
      exact Nat.mul_le_mul_left _ (by omega)
    obtain ⟨d, u', e1, pd, hu'⟩ := hm u _ x hu (by omega)
    refine ⟨mk u (.fz x), ?_, .inr ⟨mk u (.fz x), d, mk u' (.fz x), by simp, e1, by rw [szl]; omega, u', .fz x, rfl, ?_, ?_, ?_⟩⟩
    · rw [hmk, asg_nm, if_neg (by simp), hset]
    · exact hu'.mono (by rw [List.length_append, List.length_singleton, Nat.mul_add]; omega)
    · intro z hz
      rcases List.mem_append.mp hz with hz | hz
      · exact ha z hz
      · simp at hz; subst hz; exact pd
    · simp; omega) (xs := xs) (acc := []) (e := mk u .un) ⟨u, .un, rfl, by simpa using hu, by simp, by simp⟩
  obtain ⟨ds, e', h1, u', x', rfl, h2, h3, h4⟩ := this
  simp at h4
  exact ⟨ds, u', x', h1, h3, h4, by rw [← h4]; exact h2⟩
theorem rangeD_length {lo : Int} {n : Nat} : (rangeD lo n).length = n := by simp [rangeD]
/-! ### the comparisons -/
theorem same58 {d : D} (h : plainD 10 d = true) : C58 15 [.fz d, .fz d] = .ok (.fz (.bl true)) [.un, .un] := same_ok (tbl := tbl) (s := 15) rfl 10 47 d h
theorem plain_bls {α : Type} {f : α → Bool} {xs : List α} (h : xs.length ≤ 1000) : plainD 10 (.lst (xs.map fun x => D.bl (f x))) = true := by
  simp only [plain_lst, List.length_map, Bool.and_eq_true, decide_eq_true_eq, plains_iff]
  refine ⟨by rw [szl]; omega, fun x hx => ?_⟩
  obtain ⟨a, _, rfl⟩ := List.mem_map.mp hx
  simp
/-- [f(own) for own in xs] -/
theorem calls10 {f : Nat} {g : D → Bool} {xs : List D} {e : En} (he : e.length = 12) (hg : ∀ x ∈ xs, C58 f [.fz x] = .ok (.fz (.bl (g x))) [.un]) (h10 : e[10]? = some .un) (hz : xs.length ≤ 1000) :
    compR [10] (.nm 10) (evTs C58 []) (frozen (ev C58 (.call f [false] [.var 10]))) e (some xs) = .ok (.ow (.lst (xs.map fun x => .bl (g x)))) e := by
  refine comp_map1 (fun x => .bl (g x)) (fun x hx => ⟨e.set 10 (.fz x), ?_, ?_, ?_⟩) (by rw [szl]; omega)
  · have : e.set 10 .un = e := by
      apply List.ext_getElem?
      intro j
      by_cases hj : j = 10
      · subst hj; rw [List.getElem?_set_self (by omega), h10]
      · rw [List.getElem?_set_ne (Ne.symm hj)]
    simp [this]
  · have : (e.set 10 (.fz x))[10]? = some (.fz x) := List.getElem?_set_self (by omega)
    simp [this, hg x hx]
  · simp
end K02

end

section
set_option maxRecDepth 100000
set_option maxHeartbeats 4000000
namespace K02
open PI
theorem pick58 {b : Nat} {c : Int} {u : D} {goods : List D} (h : Urn b u) (hc0 : 0 ≤ c) (hc1 : c ≤ 100) (hb : 100 ≤ b) (hz : goods.length ≤ 1000) :
    ∃ (fs : List D) (u' : D), C58 14 [.ow u, .fz (.lst goods), .fz (.int c)] = .ok (.ow (.lst fs)) [.ow u', .un, .un] ∧ (∀ d ∈ fs, d ∈ goods) ∧ fs.length ≤ 100 ∧ Urn (b - 100) u' := pick_ok (tbl := tbl) (t := 11) (p := 14) rfl rfl 56 h hc0 hc1 hb hz
/-! ### histories of things -/
def hv : D → Bool
  | .tup xs => xs.all db
  | _ => false
theorem ent10 {a0 a1 a2 a3 a4 a5 a6 a7 a8 a9 a10 a11 : Ent} : ([a0, a1, a2, a3, a4, a5, a6, a7, a8, a9, a10, a11] : En).length = 12 := rfl
theorem hist58 {d : D} (h : goodD d = true) : C58 6 [.fz d] = .ok (.fz (.bl (hv d))) [.un] := by
  show run tbl (57 + 1) 6 [.fz d] = _
  rw [run_def (fd := fd_is_history) rfl rfl]
  cases d with
  | tup xs =>
    simp only [goodD, Bool.and_eq_true, decide_eq_true_eq] at h
    have e1 : compR [1] (.nm 1) (evTs (run tbl 57) []) (frozen (ev (run tbl 57) (.call 5 [false] [.var 1]))) [.fz (.tup xs), .un] (some xs) = .ok (.ow (.lst (xs.map fun x => .bl (db x)))) [.fz (.tup xs), .un] := by
      refine comp_map1 (fun x => .bl (db x)) (fun x hx => ⟨[.fz (.tup xs), .fz x], by simp, ?_, by simp⟩) (by rw [szl]; omega)
      have := okEl_57 (all_mem h.2 hx)
      simp [this]
    simp at e1
    simp [fd_is_history, isC, e1, bools_map (f := fun x => D.bl (db x)) (g := db), hv]
    try rfl
  | lst _ => simp [fd_is_history, isC, hv]
  | int _ => simp [fd_is_history, isC, hv]
  | str _ => simp [fd_is_history, isC, hv]
  | bl _ => simp [fd_is_history, isC, hv]
  | non => simp [fd_is_history, isC, hv]
  | _ => simp [goodD] at h
theorem peq_nil {xs : List D} (h : ∀ x ∈ xs, x = .int 1) : peq [.lst xs, .lst []] = some (.fz (.bl xs.isEmpty)) := by
  have c : ∀ {xs : List D}, (∀ x ∈ xs, x = .int 1) → PySem.PyData.canLayAll0 (D.toPys xs) = true := by
    intro xs
    induction xs with
    | nil => intro _; rfl
    | cons x xs ih => intro h; rw [h x (by simp)]; simp [D.toPys, D.toPy, PySem.PyData.canLayAll0, PySem.PyData.canLay0, ih (fun y hy => h y (by simp [hy]))]
  have hc := c h
  have e1 : (D.lst xs).toPy.eqv (D.lst []).toPy = xs.isEmpty := by
    cases xs <;> simp [D.toPy, D.toPys, PySem.PyData.eqv, PySem.PyData.eqvAll]
  show (if _ then _ else _) = _
  rw [if_pos, e1]
  simp [eqOk, D.toPy, PySem.PyData.canLay0, hc, D.toPys, PySem.PyData.canLayAll0, PySem.PyData.depth, PySem.PyData.depthAll]
end K02

end

section
set_option maxRecDepth 100000
set_option maxHeartbeats 4000000
namespace K02
open PI
theorem filter_len {xs : List D} {f : D → Bool} : (xs.filter fun x => !f x).isEmpty = xs.all f := by
  induction xs with
  | nil => rfl
  | cons x xs ih =>
    cases h : f x <;> simp [h, ih]
    
/-- what is due of a thing near a HISTORY, near a WORD -/
def dueE (f : Nat) : E := .and (.pn (pisi [.tuple]) [.var 10]) (.pn peq [.comp [11] (.nm 11) ikVal [.var 10] [.not (.e (.call f [false] [.var 11]))] (.lit (.int 1)), .lst []])
theorem due_ok {f : Nat} {g : D → Bool} {xs : List D} {a0 a1 a2 a3 a4 a5 a6 a7 a8 a9 : Ent} (hz : xs.length ≤ 1000) (hg : ∀ x ∈ xs, C58 f [.fz x] = .ok (.fz (.bl (g x))) [.un]) :
    ev C58 (dueE f) [a0, a1, a2, a3, a4, a5, a6, a7, a8, a9, .fz (.tup xs), .un] = .ok (.fz (.bl (xs.all g))) [a0, a1, a2, a3, a4, a5, a6, a7, a8, a9, .fz (.tup xs), .un] := by
  have e1 : compR [11] (.nm 11) (evTs C58 [.not (.e (.call f [false] [.var 11]))]) (frozen (ev C58 (.lit (.int 1)))) [a0, a1, a2, a3, a4, a5, a6, a7, a8, a9, .fz (.tup xs), .un] (some xs) = .ok (.ow (.lst ((xs.filter fun x => !g x).map fun _ => .int 1))) [a0, a1, a2, a3, a4, a5, a6, a7, a8, a9, .fz (.tup xs), .un] := by
    refine comp_map (fun x => !g x) (fun _ => .int 1) (fun x hx => ⟨[a0, a1, a2, a3, a4, a5, a6, a7, a8, a9, .fz (.tup xs), .fz x], by simp, ?_, by simp, by simp⟩) (by rw [szl]; omega)
    simp [hg x hx]
  have e2 := peq_nil (xs := (xs.filter fun x => !g x).map fun _ => D.int 1) (fun x hx => by obtain ⟨_, _, rfl⟩ := List.mem_map.mp hx; rfl)
  rw [List.isEmpty_map, filter_len] at e2
  simp at e1 e2
  simp [dueE, isC, e1, e2, lstR, szl]
theorem due_no {f : Nat} {d : D} {c : Cl} (hc : d.cl = some c) (hn : isC c .tuple = false) {a0 a1 a2 a3 a4 a5 a6 a7 a8 a9 : Ent} :
    ev C58 (dueE f) [a0, a1, a2, a3, a4, a5, a6, a7, a8, a9, .fz d, .un] = .ok (.fz (.bl false)) [a0, a1, a2, a3, a4, a5, a6, a7, a8, a9, .fz d, .un] := by
  simp [dueE, hc, hn]
theorem due_good {d : D} (h : goodD d = true) {a0 a1 a2 a3 a4 a5 a6 a7 a8 a9 : Ent} :
    ev C58 (dueE 21) [a0, a1, a2, a3, a4, a5, a6, a7, a8, a9, .fz d, .un] = .ok (.fz (.bl (hv d))) [a0, a1, a2, a3, a4, a5, a6, a7, a8, a9, .fz d, .un] := by
  cases d with
  | tup xs =>
    simp only [goodD, Bool.and_eq_true, decide_eq_true_eq] at h
    exact due_ok h.1 fun x hx => okEl_own (all_mem h.2 hx)
  | lst _ => exact due_no rfl rfl
  | int _ => exact due_no rfl rfl
  | str _ => exact due_no rfl rfl
  | bl _ => exact due_no rfl rfl
  | non => exact due_no rfl rfl
  | _ => simp [goodD] at h
/-- [due for own in xs] -/
theorem dues {f : Nat} {g : D → Bool} {xs : List D} {a0 a1 a2 a3 a4 a5 a6 a7 a8 a9 : Ent} (hg : ∀ x ∈ xs, ev C58 (dueE f) [a0, a1, a2, a3, a4, a5, a6, a7, a8, a9, .fz x, .un] = .ok (.fz (.bl (g x))) [a0, a1, a2, a3, a4, a5, a6, a7, a8, a9, .fz x, .un]) (hz : xs.length ≤ 1000) :
    compR [10] (.nm 10) (evTs C58 []) (frozen (ev C58 (dueE f))) [a0, a1, a2, a3, a4, a5, a6, a7, a8, a9, .un, .un] (some xs) = .ok (.ow (.lst (xs.map fun x => .bl (g x)))) [a0, a1, a2, a3, a4, a5, a6, a7, a8, a9, .un, .un] := by
  refine comp_map1 (fun x => .bl (g x)) (fun x hx => ⟨[a0, a1, a2, a3, a4, a5, a6, a7, a8, a9, .fz x, .un], by simp, ?_, by simp⟩) (by rw [szl]; omega)
  rw [frozen_eq, hg x hx]; rfl
/-! ### words -/
def wv : D → Bool
  | .tup xs => xs.all lb
  | _ => false
def goodW : D → Bool
  | .tup xs => decide (xs.length ≤ 1000) && xs.all okW
  | .lst _ => true
  | .int _ => true
  | _ => false
theorem word58 {d : D} (h : goodW d = true) : C58 4 [.fz d] = .ok (.fz (.bl (wv d))) [.un] := by
  show run tbl (57 + 1) 4 [.fz d] = _
  rw [run_def (fd := fd_is_word) rfl rfl]
  cases d with
  | tup xs =>
    simp only [goodW, Bool.and_eq_true, decide_eq_true_eq] at h
    have e1 : compR [1] (.nm 1) (evTs (run tbl 57) []) (frozen (ev (run tbl 57) (.call 3 [false] [.var 1]))) [.fz (.tup xs), .un] (some xs) = .ok (.ow (.lst (xs.map fun x => .bl (lb x)))) [.fz (.tup xs), .un] := by
      refine comp_map1 (fun x => .bl (lb x)) (fun x hx => ⟨[.fz (.tup xs), .fz x], by simp, ?_, by simp⟩) (by rw [szl]; omega)
      have := okW_57 (all_mem h.2 hx)
      simp [this]
    simp at e1
    simp [fd_is_word, isC, e1, bools_map (f := fun x => D.bl (lb x)) (g := lb), wv]
    try rfl
  | lst _ => simp [fd_is_word, isC, wv]
  | int _ => simp [fd_is_word, isC, wv]
  | _ => simp [goodW] at h
theorem due_goodW {d : D} (h : goodW d = true) {a0 a1 a2 a3 a4 a5 a6 a7 a8 a9 : Ent} :
    ev C58 (dueE 20) [a0, a1, a2, a3, a4, a5, a6, a7, a8, a9, .fz d, .un] = .ok (.fz (.bl (wv d))) [a0, a1, a2, a3, a4, a5, a6, a7, a8, a9, .fz d, .un] := by
  cases d with
  | tup xs =>
    simp only [goodW, Bool.and_eq_true, decide_eq_true_eq] at h
    exact due_ok h.1 fun x hx => okW_own (all_mem h.2 hx)
  | lst _ => exact due_no rfl rfl
  | int _ => exact due_no rfl rfl
  | _ => simp [goodW] at h
/-! ### the rows -/
structure Combo (l m : Int) : Prop where
  ex : ∃ (rows hs : List D) (r : Ent), (r = .ow (.lst rows) ∨ r = .fz (.lst rows)) ∧ C58 18 [.fz (.int l), .fz (.int m)] = .ok r [.un, .un] ∧ (∃ r2 : Ent, (r2 = .ow (.lst hs) ∨ r2 = .fz (.lst hs)) ∧ C58 9 [.fz (.int l), .fz (.int m)] = .ok r2 [.un, .un]) ∧
    rows ≠ [] ∧ rows.length < 1000 ∧ (∀ x ∈ rows, C58 17 [.fz x] = .ok (.fz (.bl (sb x))) [.un]) ∧ (∀ x ∈ rows, C58 8 [.fz x] = .ok (.fz (.bl (sb x))) [.un]) ∧ C58 15 [.fz (.lst hs), .fz (.lst (rows.filter sb))] = .ok (.fz (.bl true)) [.un, .un]
theorem Combo.of {l m : Int} (h : comboOk l m = true) : Combo l m := by
  unfold comboOk at h
  split at h
  · rename_i rows hs h1 h2
    simp only [Bool.and_eq_true, decide_eq_true_eq, Bool.not_eq_true', List.isEmpty_eq_false_iff] at h
    have key : ∀ x ∈ rows, C58 17 [.fz x] = .ok (.fz (.bl (sb x))) [.un] ∧ C58 8 [.fz x] = .ok (.fz (.bl (sb x))) [.un] := by
      intro x hx
      have q := all_mem h.1.2 hx
      unfold sndOk at q
      split at q
      · rename_i a b q1 q2
        have e : a = b := by simpa using q
        subst e
        have : sb x = a := by unfold sb; rw [q1]; rfl
        rw [this]
        exact ⟨bOf_some q1, bOf_some q2⟩
      · cases q
    refine ⟨rows, hs, ?_⟩
    have f2 : ∃ r2 : Ent, (r2 = .ow (.lst hs) ∨ r2 = .fz (.lst hs)) ∧ C58 9 [.fz (.int l), .fz (.int m)] = .ok r2 [.un, .un] := by
      rcases lstOf_some h2 with q | q
      · exact ⟨_, .inl rfl, q⟩
      · exact ⟨_, .inr rfl, q⟩
    rcases lstOf_some h1 with q | q
    · exact ⟨_, .inl rfl, q, f2, h.1.1.1, h.1.1.2, fun x hx => (key x hx).1, fun x hx => (key x hx).2, isTrue2_eq h.2⟩
    · exact ⟨_, .inr rfl, q, f2, h.1.1.1, h.1.1.2, fun x hx => (key x hx).1, fun x hx => (key x hx).2, isTrue2_eq h.2⟩
  · cases h
theorem combo {l m : Int} (hl : l = 1 ∨ l = 2 ∨ l = 3) (h0 : 0 ≤ m) (h1 : m < 6 - l) : Combo l m := by
  have c := combos
  simp only [Bool.and_eq_true] at c
  obtain ⟨⟨⟨⟨⟨⟨⟨⟨⟨⟨⟨c0, c1⟩, c2⟩, c3⟩, c4⟩, c5⟩, c6⟩, c7⟩, c8⟩, c9⟩, c10⟩, c11⟩ := c
  rcases hl with rfl | rfl | rfl
  · have : m = 0 ∨ m = 1 ∨ m = 2 ∨ m = 3 ∨ m = 4 := by omega
    rcases this with rfl | rfl | rfl | rfl | rfl
    · exact .of c0
    · exact .of c1
    · exact .of c2
    · exact .of c3
    · exact .of c4
  · have : m = 0 ∨ m = 1 ∨ m = 2 ∨ m = 3 := by omega
    rcases this with rfl | rfl | rfl | rfl
    · exact .of c5
    · exact .of c6
    · exact .of c7
    · exact .of c8
  · have : m = 0 ∨ m = 1 ∨ m = 2 := by omega
    rcases this with rfl | rfl | rfl
    · exact .of c9
    · exact .of c10
    · exact .of c11
end K02

end

section
set_option maxRecDepth 100000
set_option maxHeartbeats 4000000
namespace K02
open PI
theorem not_true (h : (!true) = true) : False := by cases h
/-- some rows, drawn -/
theorem s4 {b : Nat} {u : D} {a1 a2 a5 a6 a7 a8 a10 a11 : Ent} {rows : List D} (hu : Urn b u) (hb : 100 ≤ b) (h0 : rows ≠ []) (hz : rows.length < 1000) :
    ∃ ds u', exec C58 [0] st4__law_right [.ow u, a1, a2, .fz (.lst rows), .un, a5, a6, a7, a8, .un, a10, a11] = .nx [.ow u', a1, a2, .fz (.lst rows), .ow (.lst ds), a5, a6, a7, a8, .un, a10, a11] ∧ (∀ d ∈ ds, d ∈ rows) ∧ ds.length = 12 ∧ Urn (b - 12) u' := by
  obtain ⟨ds, u', x', e1, h1, h2, h3⟩ := draws (own := [9]) (i := 9) (m := frozen (ev C58 (.call 13 [true, false] [.var 0, .var 3]))) (xs := rangeD 0 12) (fun d => d ∈ rows) (fun u x => [.ow u, a1, a2, .fz (.lst rows), .un, a5, a6, a7, a8, x, a10, a11]) 1 (by simp) rfl (by simp)
    (fun u b x hu hb => by
      obtain ⟨g, u', e, m, h⟩ := of58 hu hb h0 (by omega)
      exact ⟨g, u', by simp [e], m, h⟩) C58 hu (by rw [rangeD_length]; omega) (by rw [rangeD_length]; omega)
  rw [rangeD_length] at h2 h3
  refine ⟨ds, u', ?_, h1, h2, h3⟩
  have hr := ikRange1_int (j := 12) (by omega) (by omega)
  simp [st4__law_right, hr, e1]
theorem s6 {b : Nat} {u : D} {a1 a2 a3 a4 a6 a7 a8 a10 a11 : Ent} (hu : Urn b u) (hb : 100 ≤ b) :
    ∃ ds u', exec C58 [0] st6__law_right [.ow u, a1, a2, a3, a4, .un, a6, a7, a8, .un, a10, a11] = .nx [.ow u', a1, a2, a3, a4, .ow (.lst ds), a6, a7, a8, .un, a10, a11] ∧ (∀ d ∈ ds, d ∈ things) ∧ ds.length = 10 ∧ Urn (b - 20) u' := by
  obtain ⟨ds, u', x', e1, h1, h2, h3⟩ := draws (own := [9]) (i := 9) (m := frozen (ev C58 (.call 19 [true] [.var 0]))) (xs := rangeD 0 10) (fun d => d ∈ things) (fun u x => [.ow u, a1, a2, a3, a4, .un, a6, a7, a8, x, a10, a11]) 2 (by simp) rfl (by simp)
    (fun u b x hu hb => by
      obtain ⟨g, u', e, m, h⟩ := thing58 hu hb
      exact ⟨g, u', by simp [e], m, h⟩) C58 hu (by rw [rangeD_length]; omega) (by rw [rangeD_length]; omega)
  rw [rangeD_length] at h2 h3
  refine ⟨ds, u', ?_, h1, h2, h3⟩
  have hr := ikRange1_int (j := 10) (by omega) (by omega)
  simp [st6__law_right, hr, e1]
theorem good_tup {xs : List D} (h : ∀ d ∈ xs, d ∈ things) (hz : xs.length ≤ 1000) : goodD (.tup xs) = true := by
  simp only [goodD, Bool.and_eq_true, decide_eq_true_eq]
  refine ⟨hz, List.all_eq_true.mpr fun x hx => ?_⟩
  have := all_mem things_ok (h x hx)
  simp only [Bool.and_eq_true] at this
  exact this.1
theorem s8 {b : Nat} {u : D} {a1 a2 a3 a4 a7 a8 a10 a11 : Ent} {ths : List D} (hu : Urn b u) (hb : 1000 ≤ b) (ht : ∀ d ∈ ths, d ∈ things) (hl : ths.length = 10) :
    ∃ ds u', exec C58 [0] st8__law_right [.ow u, a1, a2, a3, a4, .fz (.lst ths), .un, a7, a8, .un, a10, a11] = .nx [.ow u', a1, a2, a3, a4, .fz (.lst ths), .ow (.lst ds), a7, a8, .un, a10, a11] ∧ (∀ d ∈ ds, goodD d = true) ∧ ds.length = 6 ∧ Urn (b - 404) u' := by
  obtain ⟨ds, u', x', e1, h1, h2, h3⟩ := draws (own := [9]) (i := 9) (m := frozen (ev C58 (.pn ptuple [.call 14 [true, false, false] [.var 0, .var 5, .call 11 [true, false] [.var 0, .lit (.int 3)]]]))) (xs := rangeD 0 4) (fun d => goodD d = true) (fun u x => [.ow u, a1, a2, a3, a4, .fz (.lst ths), .un, a7, a8, x, a10, a11]) 101 (by simp) rfl (by simp)
    (fun u b x hu hb => by
      obtain ⟨r, u1, e0, r0, r1, hu1⟩ := take58 (low := 3) hu (by omega) (by omega) (by omega)
      obtain ⟨fs, u2, e2, m2, l2, h2⟩ := pick58 (goods := ths) hu1 r0 (by omega) (by omega) (by omega)
      exact ⟨.tup fs, u2, by simp [e0, e2], good_tup (fun d hd => ht d (m2 d hd)) (by omega), h2.mono (by omega)⟩) C58 hu (by rw [rangeD_length]; omega) (by rw [rangeD_length]; omega)
  rw [rangeD_length] at h2 h3
  obtain ⟨t0, tr, rfl⟩ : ∃ t0 tr, ths = t0 :: tr := by
    cases ths with
    | nil => simp at hl
    | cons a b => exact ⟨a, b, rfl⟩
  refine ⟨ds ++ [.lst [t0], t0], u', ?_, ?_, by simp [h2], h3⟩
  · have hr := ikRange1_int (j := 4) (by omega) (by omega)
    have hc : cutD (t0 :: tr) none (some 1) = [t0] := by rw [cutD_to1]; rfl
    simp [st8__law_right, hr, e1, hc, lstR, szl, padd, h2]
  · intro d hd
    rcases List.mem_append.mp hd with hd | hd
    · exact h1 d hd
    · simp at hd
      rcases hd with rfl | rfl
      · rfl
      · have := all_mem things_ok (ht d (by simp))
        simp only [Bool.and_eq_true] at this
        exact this.2
theorem words_tup {xs : List D} (h : ∀ d ∈ xs, d ∈ words) (hz : xs.length ≤ 1000) : goodW (.tup xs) = true := by
  simp only [goodW, Bool.and_eq_true, decide_eq_true_eq]
  exact ⟨hz, List.all_eq_true.mpr fun x hx => all_mem words_ok (h x hx)⟩
theorem s11 {b : Nat} {u : D} {a1 a2 a3 a4 a5 a6 a7 a11 : Ent} (hu : Urn b u) (hb : 1000 ≤ b) :
    ∃ ds u', exec C58 [0] st11__law_right [.ow u, a1, a2, a3, a4, a5, a6, a7, .un, .un, .un, a11] = .nx [.ow u', a1, a2, a3, a4, a5, a6, a7, .ow (.lst ds), .un, .un, a11] ∧ (∀ d ∈ ds, goodW d = true) ∧ ds.length = 6 := by
  have one : ∀ u b x, Urn b u → 10 ≤ b → ∃ d u', frozen (ev C58 (.pn ptuple [.comp [9] (.nm 9) ikRange1 [.call 11 [true, false] [.var 0, .lit (.int 4)]] [] (.call 13 [true, false] [.var 0, .lst [.lit (.int 1), .lit (.int 2), .lit (.int 3), .lit (.int 9), .lit (.int 0), .lit (.bl true), .lit .non, .lit (.str (PySem.Str.ofString "a"))]])])) [.ow u, a1, a2, a3, a4, a5, a6, a7, .un, .un, .fz x, a11] = .ok d [.ow u', a1, a2, a3, a4, a5, a6, a7, .un, .un, .fz x, a11] ∧ goodW d = true ∧ Urn (b - 10) u' := by
    intro u b x hu hb
    obtain ⟨r, u1, e0, r0, r1, hu1⟩ := take58 (low := 4) hu (by omega) (by omega) (by omega)
    obtain ⟨ds, u', x', e1, h1, h2, h3⟩ := draws (own := [9]) (i := 9) (m := frozen (ev C58 (.call 13 [true, false] [.var 0, .lst [.lit (.int 1), .lit (.int 2), .lit (.int 3), .lit (.int 9), .lit (.int 0), .lit (.bl true), .lit .non, .lit (.str (PySem.Str.ofString "a"))]]))) (xs := rangeD 0 r.toNat) (fun d => d ∈ words) (fun u y => [.ow u, a1, a2, a3, a4, a5, a6, a7, .un, y, .fz x, a11]) 1 (by simp) rfl (by simp)
      (fun u b x hu hb => by
        obtain ⟨g, u', e, m, h⟩ := of58 (gs := words) hu hb (by simp [words]) (by simp [words])
        refine ⟨g, u', ?_, m, h⟩
        simp [words] at e
        simp [e, lstR, szl]) C58 hu1 (by rw [rangeD_length]; omega) (by rw [rangeD_length]; omega)
    rw [rangeD_length] at h2 h3
    have hr := ikRange1_int (j := r) (by omega) (by omega)
    refine ⟨.tup ds, u', ?_, words_tup h1 (by omega), h3.mono (by omega)⟩
    simp [e0, hr, e1]
  obtain ⟨ds, u', x', e1, h1, h2, h3⟩ := draws (own := [10]) (i := 10) (m := frozen (ev C58 (.pn ptuple [.comp [9] (.nm 9) ikRange1 [.call 11 [true, false] [.var 0, .lit (.int 4)]] [] (.call 13 [true, false] [.var 0, .lst [.lit (.int 1), .lit (.int 2), .lit (.int 3), .lit (.int 9), .lit (.int 0), .lit (.bl true), .lit .non, .lit (.str (PySem.Str.ofString "a"))]])]))) (xs := rangeD 0 4) (fun d => goodW d = true) (fun u y => [.ow u, a1, a2, a3, a4, a5, a6, a7, .un, .un, y, a11]) 10 (by simp) rfl (by simp) one C58 hu (by rw [rangeD_length]; omega) (by rw [rangeD_length]; omega)
  rw [rangeD_length] at h2
  refine ⟨ds ++ [.lst [.int 1], .int 1], u', ?_, ?_, by simp [h2]⟩
  · have hr := ikRange1_int (j := 4) (by omega) (by omega)
    simp [st11__law_right, hr, e1, lstR, szl, padd, h2]
  · intro d hd
    rcases List.mem_append.mp hd with hd | hd
    · exact h1 d hd
    · simp at hd
      rcases hd with rfl | rfl <;> rfl
end K02

end

section
set_option maxRecDepth 100000
set_option maxHeartbeats 4000000
namespace K02
open PI
theorem law_right {u : D} (hu : Urn 1000000 u) : ∃ e : Ent, run tbl 59 23 [.ow u] = .ok (.fz (.bl true)) [e] := by
  show ∃ e : Ent, run tbl (58 + 1) 23 [.ow u] = .ok (.fz (.bl true)) [e]
  rw [run_def (fd := fd__law_right) rfl rfl]
  obtain ⟨r, u1, e0, r0, r1, hu1⟩ := take58 (low := 3) hu (by omega) (by omega) (by omega)
  obtain ⟨m, u2, e1, m0, m1, hu2⟩ := take58 (low := 6 - (1 + r)) hu1 (by omega) (by omega) (by omega)
  obtain ⟨rows, hs, rr, hrr, e2, ⟨r2, hr2, e3⟩, hne, hlen, hown, hsnd, hsame⟩ := (combo (l := 1 + r) (m := m) (by omega) m0 m1).ex
  -- letters, many, rows
  have x0 : exec C58 [0] st0__law_right [.ow u, .un, .un, .un, .un, .un, .un, .un, .un, .un, .un, .un] = .nx [.ow u1, .fz (.int (1 + r)), .un, .un, .un, .un, .un, .un, .un, .un, .un, .un] := by simp [st0__law_right, e0]
  have x1 : exec C58 [0] st1__law_right [.ow u1, .fz (.int (1 + r)), .un, .un, .un, .un, .un, .un, .un, .un, .un, .un] = .nx [.ow u2, .fz (.int (1 + r)), .fz (.int m), .un, .un, .un, .un, .un, .un, .un, .un, .un] := by simp [st1__law_right, e1]
  have x2 : exec C58 [0] st2__law_right [.ow u2, .fz (.int (1 + r)), .fz (.int m), .un, .un, .un, .un, .un, .un, .un, .un, .un] = .nx [.ow u2, .fz (.int (1 + r)), .fz (.int m), rr, .un, .un, .un, .un, .un, .un, .un, .un] := by simp [st2__law_right, e2]
  -- all rows
  have x3 : exec C58 [0] st3__law_right [.ow u2, .fz (.int (1 + r)), .fz (.int m), rr, .un, .un, .un, .un, .un, .un, .un, .un] = .nx [.ow u2, .fz (.int (1 + r)), .fz (.int m), .fz (.lst rows), .un, .un, .un, .un, .un, .un, .un, .un] := by
    have c : compR [10] (.nm 10) (evTs C58 [.e (.call 17 [false] [.var 10])]) (frozen (ev C58 (.var 10))) [.ow u2, .fz (.int (1 + r)), .fz (.int m), .fz (.lst rows), .un, .un, .un, .un, .un, .un, .un, .un] (some rows) = .ok (.ow (.lst ((rows.filter sb).map fun x => x))) [.ow u2, .fz (.int (1 + r)), .fz (.int m), .fz (.lst rows), .un, .un, .un, .un, .un, .un, .un, .un] := by
      refine comp_map sb (fun x => x) (fun x hx => ⟨[.ow u2, .fz (.int (1 + r)), .fz (.int m), .fz (.lst rows), .un, .un, .un, .un, .un, .un, .fz x, .un], by simp, ?_, by simp, by simp⟩) (by rw [szl]; omega)
      simp [hown x hx]
    rw [List.map_id'] at c
    rcases hrr with rfl | rfl <;> rcases hr2 with rfl | rfl <;> (simp at c; simp [st3__law_right, e3, c, hsame])
  obtain ⟨some_, u3, x4, h4, l4, hu3⟩ := s4 (a1 := .fz (.int (1 + r))) (a2 := .fz (.int m)) (a5 := .un) (a6 := .un) (a7 := .un) (a8 := .un) (a10 := .un) (a11 := .un) hu2 (by omega) hne hlen
  have x5 : exec C58 [0] st5__law_right [.ow u3, .fz (.int (1 + r)), .fz (.int m), .fz (.lst rows), .ow (.lst some_), .un, .un, .un, .un, .un, .un, .un] = .nx [.ow u3, .fz (.int (1 + r)), .fz (.int m), .fz (.lst rows), .fz (.lst some_), .un, .un, .un, .un, .un, .un, .un] := by
    have c1 := calls10 (f := 8) (g := sb) (xs := some_) (e := [.ow u3, .fz (.int (1 + r)), .fz (.int m), .fz (.lst rows), .fz (.lst some_), .un, .un, .un, .un, .un, .un, .un]) rfl (fun x hx => hsnd x (h4 x hx)) rfl (by omega)
    have c2 := calls10 (f := 17) (g := sb) (xs := some_) (e := [.ow u3, .fz (.int (1 + r)), .fz (.int m), .fz (.lst rows), .fz (.lst some_), .un, .un, .un, .un, .un, .un, .un]) rfl (fun x hx => hown x (h4 x hx)) rfl (by omega)
    have c3 := same58 (plain_bls (f := sb) (xs := some_) (by omega))
    simp at c1 c2
    simp [st5__law_right, c1, c2, c3]
  obtain ⟨ths, u4, x6, h6, l6, hu4⟩ := s6 (a1 := .fz (.int (1 + r))) (a2 := .fz (.int m)) (a3 := .fz (.lst rows)) (a4 := .fz (.lst some_)) (a6 := .un) (a7 := .un) (a8 := .un) (a10 := .un) (a11 := .un) hu3 (by omega)
  have hel : ∀ x ∈ ths, okEl x = true := fun x hx => by
    have := all_mem things_ok (h6 x hx)
    simp only [Bool.and_eq_true] at this
    exact this.1
  have x7 : exec C58 [0] st7__law_right [.ow u4, .fz (.int (1 + r)), .fz (.int m), .fz (.lst rows), .fz (.lst some_), .ow (.lst ths), .un, .un, .un, .un, .un, .un] = .nx [.ow u4, .fz (.int (1 + r)), .fz (.int m), .fz (.lst rows), .fz (.lst some_), .fz (.lst ths), .un, .un, .un, .un, .un, .un] := by
    have c1 := calls10 (f := 5) (g := db) (xs := ths) (e := [.ow u4, .fz (.int (1 + r)), .fz (.int m), .fz (.lst rows), .fz (.lst some_), .fz (.lst ths), .un, .un, .un, .un, .un, .un]) rfl (fun x hx => okEl_58 (hel x hx)) rfl (by omega)
    have c2 := calls10 (f := 21) (g := db) (xs := ths) (e := [.ow u4, .fz (.int (1 + r)), .fz (.int m), .fz (.lst rows), .fz (.lst some_), .fz (.lst ths), .un, .un, .un, .un, .un, .un]) rfl (fun x hx => okEl_own (hel x hx)) rfl (by omega)
    have c3 := same58 (plain_bls (f := db) (xs := ths) (by omega))
    simp at c1 c2
    simp [st7__law_right, c1, c2, c3]
  obtain ⟨lots, u5, x8, h8, l8, hu5⟩ := s8 (a1 := .fz (.int (1 + r))) (a2 := .fz (.int m)) (a3 := .fz (.lst rows)) (a4 := .fz (.lst some_)) (a7 := .un) (a8 := .un) (a10 := .un) (a11 := .un) hu4 (by omega) h6 l6
  have x9 : exec C58 [0] st9__law_right [.ow u5, .fz (.int (1 + r)), .fz (.int m), .fz (.lst rows), .fz (.lst some_), .fz (.lst ths), .ow (.lst lots), .un, .un, .un, .un, .un] = .nx [.ow u5, .fz (.int (1 + r)), .fz (.int m), .fz (.lst rows), .fz (.lst some_), .fz (.lst ths), .fz (.lst lots), .ow (.lst (lots.map fun x => .bl (hv x))), .un, .un, .un, .un] := by
    have c := dues (f := 21) (g := hv) (xs := lots) (a0 := .ow u5) (a1 := .fz (.int (1 + r))) (a2 := .fz (.int m)) (a3 := .fz (.lst rows)) (a4 := .fz (.lst some_)) (a5 := .fz (.lst ths)) (a6 := .fz (.lst lots)) (a7 := .un) (a8 := .un) (a9 := .un) (fun x hx => due_good (h8 x hx)) (by omega)
    simp [dueE] at c
    simp [st9__law_right, c]
  have x10 : exec C58 [0] st10__law_right [.ow u5, .fz (.int (1 + r)), .fz (.int m), .fz (.lst rows), .fz (.lst some_), .fz (.lst ths), .fz (.lst lots), .ow (.lst (lots.map fun x => .bl (hv x))), .un, .un, .un, .un] = .nx [.ow u5, .fz (.int (1 + r)), .fz (.int m), .fz (.lst rows), .fz (.lst some_), .fz (.lst ths), .fz (.lst lots), .fz (.lst (lots.map fun x => .bl (hv x))), .un, .un, .un, .un] := by
    have c1 := calls10 (f := 6) (g := hv) (xs := lots) (e := [.ow u5, .fz (.int (1 + r)), .fz (.int m), .fz (.lst rows), .fz (.lst some_), .fz (.lst ths), .fz (.lst lots), .ow (.lst (lots.map fun x => .bl (hv x))), .un, .un, .un, .un]) rfl (fun x hx => hist58 (h8 x hx)) rfl (by omega)
    have c3 := same58 (plain_bls (f := hv) (xs := lots) (by omega))
    simp at c1
    simp [st10__law_right, c1, c3]
  obtain ⟨wds, u6, x11, h11, l11⟩ := s11 (a1 := .fz (.int (1 + r))) (a2 := .fz (.int m)) (a3 := .fz (.lst rows)) (a4 := .fz (.lst some_)) (a5 := .fz (.lst ths)) (a6 := .fz (.lst lots)) (a7 := .fz (.lst (lots.map fun x => .bl (hv x)))) (a11 := .un) hu5 (by omega)
  have x12 : exec C58 [0] st12__law_right [.ow u6, .fz (.int (1 + r)), .fz (.int m), .fz (.lst rows), .fz (.lst some_), .fz (.lst ths), .fz (.lst lots), .fz (.lst (lots.map fun x => .bl (hv x))), .ow (.lst wds), .un, .un, .un] = .rt (.fz (.bl true)) [.ow u6, .fz (.int (1 + r)), .fz (.int m), .fz (.lst rows), .fz (.lst some_), .fz (.lst ths), .fz (.lst lots), .fz (.lst (lots.map fun x => .bl (hv x))), .fz (.lst wds), .un, .un, .un] := by
    have c1 := calls10 (f := 4) (g := wv) (xs := wds) (e := [.ow u6, .fz (.int (1 + r)), .fz (.int m), .fz (.lst rows), .fz (.lst some_), .fz (.lst ths), .fz (.lst lots), .fz (.lst (lots.map fun x => .bl (hv x))), .fz (.lst wds), .un, .un, .un]) rfl (fun x hx => word58 (h11 x hx)) rfl (by omega)
    have c2 := dues (f := 20) (g := wv) (xs := wds) (a0 := .ow u6) (a1 := .fz (.int (1 + r))) (a2 := .fz (.int m)) (a3 := .fz (.lst rows)) (a4 := .fz (.lst some_)) (a5 := .fz (.lst ths)) (a6 := .fz (.lst lots)) (a7 := .fz (.lst (lots.map fun x => .bl (hv x)))) (a8 := .fz (.lst wds)) (a9 := .un) (fun x hx => due_goodW (h11 x hx)) (by omega)
    have c3 := same58 (plain_bls (f := wv) (xs := wds) (by omega))
    simp at c1
    simp [dueE] at c2
    simp [st12__law_right, c1, c2, c3]
  refine ⟨.ow u6, ?_⟩
  show finish fd__law_right (execs C58 [0] [st0__law_right, st1__law_right, st2__law_right, st3__law_right, st4__law_right, st5__law_right, st6__law_right, st7__law_right, st8__law_right, st9__law_right, st10__law_right, st11__law_right, st12__law_right] [.ow u, .un, .un, .un, .un, .un, .un, .un, .un, .un, .un, .un]) = _
  rw [execs_cons, x0, thenS_nx, execs_cons, x1, thenS_nx, execs_cons, x2, thenS_nx, execs_cons, x3, thenS_nx, execs_cons, x4, thenS_nx, execs_cons, x5, thenS_nx, execs_cons, x6, thenS_nx, execs_cons, x7, thenS_nx, execs_cons, x8, thenS_nx, execs_cons, x9, thenS_nx, execs_cons, x10, thenS_nx, execs_cons, x11, thenS_nx, execs_cons, x12, thenS_rt]
  rfl
theorem law_ok (ns : List Int) (h : ns.length ≤ 63) : ∃ outs, run tbl 60 24 [.fz (.scr (ns.map D.int))] = .ok (.fz (.bl true)) outs := by
  show ∃ outs, run tbl (59 + 1) 24 [.fz (.scr (ns.map D.int))] = .ok (.fz (.bl true)) outs
  rw [run_def (fd := fd_law) rfl rfl]
  obtain ⟨v, e1⟩ := cells_ok (tbl := tbl) (x := 12) rfl 58 h
  obtain ⟨u, e2, hu⟩ := box_ok (tbl := tbl) (x := 10) (c := 3184003) rfl 58 (cs := [v]) (by simp)
  obtain ⟨e, e3⟩ := law_right hu
  have e0 : run tbl 59 22 [] = .ok (.fz (.bl true)) [] := by kernel_rfl
  simp at e1 e2
  exact ⟨_, by simp [fd_law, e0, e1, e2, e3]; rfl⟩
end K02

end

section
set_option maxHeartbeats 0
namespace K02
open PySem PySem.Spec PyProof.Rows L2 PI
/-! ### all defs -/
section
variable {P : Program} {w : World} {K : PySem.W.Frag} {mg : Str → Option Value} {base : Heap} {XC : Str → Value → Prop}
structure Dfs (K : PySem.W.Frag) (mg : Str → Option Value) : Prop where
  d_is_number : DefF K mg "is_number" st_is_number ["thing"]
  d_tuple_of : DefF K mg "tuple_of" st_tuple_of ["thing"]
  d_is_tuple_of : DefF K mg "is_tuple_of" st_is_tuple_of ["thing", "many"]
  d_is_letter : DefF K mg "is_letter" st_is_letter ["thing"]
  d_is_word : DefF K mg "is_word" st_is_word ["thing"]
  d_is_deed : DefF K mg "is_deed" st_is_deed ["thing"]
  d_is_history : DefF K mg "is_history" st_is_history ["thing"]
  d_is_sound_in : DefF K mg "is_sound_in" st_is_sound_in ["history"]
  d_is_sound : DefF K mg "is_sound" st_is_sound ["history"]
  d_histories_of : DefF K mg "histories_of" st_histories_of ["letters", "many"]
  d__law_box : DefF K mg "_law_box" st__law_box ["script", "k"]
  d__law_take : DefF K mg "_law_take" st__law_take ["urn", "low_so"]
  d__law_cells : DefF K mg "_law_cells" st__law_cells ["script", "top"]
  d__law_of : DefF K mg "_law_of" st__law_of ["urn", "goods"]
  d__law_pick : DefF K mg "_law_pick" st__law_pick ["tin", "goods", "count"]
  d__law_same : DefF K mg "_law_same" st__law_same ["got", "goal"]
  d__law_lists : DefF K mg "_law_lists" st__law_lists ["matter"]
  d__law_is_sound : DefF K mg "_law_is_sound" st__law_is_sound ["history"]
  d__law_all : DefF K mg "_law_all" st__law_all ["letters", "many"]
  d__law_thing : DefF K mg "_law_thing" st__law_thing ["tin"]
  d__law_is_letter : DefF K mg "_law_is_letter" st__law_is_letter ["matter"]
  d__law_is_deed : DefF K mg "_law_is_deed" st__law_is_deed ["matter"]
  d__law_by_hand_right : DefF K mg "_law_by_hand_right" st__law_by_hand_right []
  d__law_right : DefF K mg "_law_right" st__law_right ["tin"]
  d_law : DefF K mg "law" st_law ["script"]
theorem cx_ok (B : Bt mg) (D : Dfs K mg) : ∀ k, FnCx P w K mg base XC (run tbl k) k names
  | 0 => FnCx.of ⟨at_zero D.d_is_number, at_zero D.d_tuple_of, at_zero D.d_is_tuple_of, at_zero D.d_is_letter, at_zero D.d_is_word, at_zero D.d_is_deed, at_zero D.d_is_history, at_zero D.d_is_sound_in, at_zero D.d_is_sound, at_zero D.d_histories_of, at_zero D.d__law_box, at_zero D.d__law_take, at_zero D.d__law_cells, at_zero D.d__law_of, at_zero D.d__law_pick, at_zero D.d__law_same, at_zero D.d__law_lists, at_zero D.d__law_is_sound, at_zero D.d__law_all, at_zero D.d__law_thing, at_zero D.d__law_is_letter, at_zero D.d__law_is_deed, at_zero D.d__law_by_hand_right, at_zero D.d__law_right, at_zero D.d_law, trivial⟩
  | k + 1 => by
    have G := cx_ok B D k
    exact FnCx.of ⟨at_succ D.d_is_number sc_is_number (fd' := fd_is_number) rfl rfl rfl (by decide) (by decide) (ok_is_number B G),
      at_succ D.d_tuple_of sc_tuple_of (fd' := fd_tuple_of) rfl rfl rfl (by decide) (by decide) (ok_tuple_of B G),
      at_succ D.d_is_tuple_of sc_is_tuple_of (fd' := fd_is_tuple_of) rfl rfl rfl (by decide) (by decide) (ok_is_tuple_of B G),
      at_succ D.d_is_letter sc_is_letter (fd' := fd_is_letter) rfl rfl rfl (by decide) (by decide) (ok_is_letter B G),
      at_succ D.d_is_word sc_is_word (fd' := fd_is_word) rfl rfl rfl (by decide) (by decide) (ok_is_word B G),
      at_succ D.d_is_deed sc_is_deed (fd' := fd_is_deed) rfl rfl rfl (by decide) (by decide) (ok_is_deed B G),
      at_succ D.d_is_history sc_is_history (fd' := fd_is_history) rfl rfl rfl (by decide) (by decide) (ok_is_history B G),
      at_succ D.d_is_sound_in sc_is_sound_in (fd' := fd_is_sound_in) rfl rfl rfl (by decide) (by decide) (ok_is_sound_in B G),
      at_succ D.d_is_sound sc_is_sound (fd' := fd_is_sound) rfl rfl rfl (by decide) (by decide) (ok_is_sound B G),
      at_succ D.d_histories_of sc_histories_of (fd' := fd_histories_of) rfl rfl rfl (by decide) (by decide) (ok_histories_of B G),
      at_succ D.d__law_box sc__law_box (fd' := fd__law_box) rfl rfl rfl (by decide) (by decide) (ok__law_box B G),
      at_succ D.d__law_take sc__law_take (fd' := fd__law_take) rfl rfl rfl (by decide) (by decide) (ok__law_take B G),
      at_succ D.d__law_cells sc__law_cells (fd' := fd__law_cells) rfl rfl rfl (by decide) (by decide) (ok__law_cells B G),
      at_succ D.d__law_of sc__law_of (fd' := fd__law_of) rfl rfl rfl (by decide) (by decide) (ok__law_of B G),
      at_succ D.d__law_pick sc__law_pick (fd' := fd__law_pick) rfl rfl rfl (by decide) (by decide) (ok__law_pick B G),
      at_succ D.d__law_same sc__law_same (fd' := fd__law_same) rfl rfl rfl (by decide) (by decide) (ok__law_same B G),
      at_succ D.d__law_lists sc__law_lists (fd' := fd__law_lists) rfl rfl rfl (by decide) (by decide) (ok__law_lists B G),
      at_succ D.d__law_is_sound sc__law_is_sound (fd' := fd__law_is_sound) rfl rfl rfl (by decide) (by decide) (ok__law_is_sound B G),
      at_succ D.d__law_all sc__law_all (fd' := fd__law_all) rfl rfl rfl (by decide) (by decide) (ok__law_all B G),
      at_succ D.d__law_thing sc__law_thing (fd' := fd__law_thing) rfl rfl rfl (by decide) (by decide) (ok__law_thing B G),
      at_succ D.d__law_is_letter sc__law_is_letter (fd' := fd__law_is_letter) rfl rfl rfl (by decide) (by decide) (ok__law_is_letter B G),
      at_succ D.d__law_is_deed sc__law_is_deed (fd' := fd__law_is_deed) rfl rfl rfl (by decide) (by decide) (ok__law_is_deed B G),
      at_succ D.d__law_by_hand_right sc__law_by_hand_right (fd' := fd__law_by_hand_right) rfl rfl rfl (by decide) (by decide) (ok__law_by_hand_right B G),
      at_succ D.d__law_right sc__law_right (fd' := fd__law_right) rfl rfl rfl (by decide) (by decide) (ok__law_right B G),
      at_succ D.d_law sc_law (fd' := fd_law) rfl rfl rfl (by decide) (by decide) (ok_law B G), trivial⟩
end
/-! ### the head -/
def dd_is_number : He.DefD := ⟨("is_number", none), "is_number", "is_number", defArgs st_is_number, defBody st_is_number, defScope st_is_number, [], []⟩
def dd_tuple_of : He.DefD := ⟨("tuple_of", none), "tuple_of", "tuple_of", defArgs st_tuple_of, defBody st_tuple_of, defScope st_tuple_of, [], []⟩
def dd_is_tuple_of : He.DefD := ⟨("is_tuple_of", none), "is_tuple_of", "is_tuple_of", defArgs st_is_tuple_of, defBody st_is_tuple_of, defScope st_is_tuple_of, [], []⟩
def dd_is_letter : He.DefD := ⟨("is_letter", none), "is_letter", "is_letter", defArgs st_is_letter, defBody st_is_letter, defScope st_is_letter, [], []⟩
def dd_is_word : He.DefD := ⟨("is_word", none), "is_word", "is_word", defArgs st_is_word, defBody st_is_word, defScope st_is_word, [], []⟩
def dd_is_deed : He.DefD := ⟨("is_deed", none), "is_deed", "is_deed", defArgs st_is_deed, defBody st_is_deed, defScope st_is_deed, [], []⟩
def dd_is_history : He.DefD := ⟨("is_history", none), "is_history", "is_history", defArgs st_is_history, defBody st_is_history, defScope st_is_history, [], []⟩
def dd_is_sound_in : He.DefD := ⟨("is_sound_in", none), "is_sound_in", "is_sound_in", defArgs st_is_sound_in, defBody st_is_sound_in, defScope st_is_sound_in, [], []⟩
def dd_is_sound : He.DefD := ⟨("is_sound", none), "is_sound", "is_sound", defArgs st_is_sound, defBody st_is_sound, defScope st_is_sound, [], []⟩
def dd_histories_of : He.DefD := ⟨("histories_of", none), "histories_of", "histories_of", defArgs st_histories_of, defBody st_histories_of, defScope st_histories_of, [], []⟩
def dd__law_box : He.DefD := ⟨("_law_box", none), "_law_box", "_law_box", defArgs st__law_box, defBody st__law_box, defScope st__law_box, [], []⟩
def dd__law_take : He.DefD := ⟨("_law_take", none), "_law_take", "_law_take", defArgs st__law_take, defBody st__law_take, defScope st__law_take, [], []⟩
def dd__law_cells : He.DefD := ⟨("_law_cells", none), "_law_cells", "_law_cells", defArgs st__law_cells, defBody st__law_cells, defScope st__law_cells, [], []⟩
def dd__law_of : He.DefD := ⟨("_law_of", none), "_law_of", "_law_of", defArgs st__law_of, defBody st__law_of, defScope st__law_of, [], []⟩
def dd__law_pick : He.DefD := ⟨("_law_pick", none), "_law_pick", "_law_pick", defArgs st__law_pick, defBody st__law_pick, defScope st__law_pick, [], []⟩
def dd__law_same : He.DefD := ⟨("_law_same", none), "_law_same", "_law_same", defArgs st__law_same, defBody st__law_same, defScope st__law_same, [], []⟩
def dd__law_lists : He.DefD := ⟨("_law_lists", none), "_law_lists", "_law_lists", defArgs st__law_lists, defBody st__law_lists, defScope st__law_lists, [], []⟩
def dd__law_is_sound : He.DefD := ⟨("_law_is_sound", none), "_law_is_sound", "_law_is_sound", defArgs st__law_is_sound, defBody st__law_is_sound, defScope st__law_is_sound, [], []⟩
def dd__law_all : He.DefD := ⟨("_law_all", none), "_law_all", "_law_all", defArgs st__law_all, defBody st__law_all, defScope st__law_all, [], []⟩
def dd__law_thing : He.DefD := ⟨("_law_thing", none), "_law_thing", "_law_thing", defArgs st__law_thing, defBody st__law_thing, defScope st__law_thing, [], []⟩
def dd__law_is_letter : He.DefD := ⟨("_law_is_letter", none), "_law_is_letter", "_law_is_letter", defArgs st__law_is_letter, defBody st__law_is_letter, defScope st__law_is_letter, [], []⟩
def dd__law_is_deed : He.DefD := ⟨("_law_is_deed", none), "_law_is_deed", "_law_is_deed", defArgs st__law_is_deed, defBody st__law_is_deed, defScope st__law_is_deed, [], []⟩
def dd__law_by_hand_right : He.DefD := ⟨("_law_by_hand_right", none), "_law_by_hand_right", "_law_by_hand_right", defArgs st__law_by_hand_right, defBody st__law_by_hand_right, defScope st__law_by_hand_right, [], []⟩
def dd__law_right : He.DefD := ⟨("_law_right", none), "_law_right", "_law_right", defArgs st__law_right, defBody st__law_right, defScope st__law_right, [], []⟩
def dd_law : He.DefD := ⟨("law", none), "law", "law", defArgs st_law, defBody st_law, defScope st_law, [], []⟩
def fn : List He.DefD := [dd_is_number, dd_tuple_of, dd_is_tuple_of, dd_is_letter, dd_is_word, dd_is_deed, dd_is_history, dd_is_sound_in, dd_is_sound, dd_histories_of, dd__law_box, dd__law_take, dd__law_cells, dd__law_of, dd__law_pick, dd__law_same, dd__law_lists, dd__law_is_sound, dd__law_all, dd__law_thing, dd__law_is_letter, dd__law_is_deed, dd__law_by_hand_right, dd__law_right, dd_law]
def fa : List He.Fa := [.glo "is_number", .glo "tuple_of", .glo "is_tuple_of", .glo "is_letter", .glo "is_word", .glo "is_deed", .glo "is_history", .glo "is_sound_in", .glo "is_sound", .glo "histories_of", .glo "_law_box", .glo "_law_take", .glo "_law_cells", .glo "_law_of", .glo "_law_pick", .glo "_law_same", .glo "_law_lists", .glo "_law_is_sound", .glo "_law_all", .glo "_law_thing", .glo "_law_is_letter", .glo "_law_is_deed", .glo "_law_by_hand_right", .glo "_law_right", .glo "law", .free "abs", .free "all", .free "bool", .free "enumerate", .free "int", .free "isinstance", .free "len", .free "list", .free "min", .free "range", .free "str", .free "tuple", .free "zip"]
abbrev R : PySem.W.OpenRow := PySem.W.OpenLaw.row PySem.Challenge.rw_queuedsums_k02_whole_all_sound_histories
abbrev hk : PySem.W.Hook := He.hookD 4 fa fn
def ob (s : PySem.W.SharedT) : He.AlD := He.obsDG 4 fa fn (HandSHeadRun.getT s)
theorem ob_eq (s : PySem.W.SharedT) : ob s = hk.obs s.abs := He.obsDG_eq (HandSHeadRun.getT_eq s)
def loose : List PySem.Str := ["is_number", "tuple_of", "is_tuple_of", "is_letter", "is_word", "is_deed", "is_history", "is_sound_in", "is_sound", "histories_of", "_law_box", "_law_take", "_law_cells", "_law_of", "_law_pick", "_law_same", "_law_lists", "_law_is_sound", "_law_all", "_law_thing", "_law_is_letter", "_law_is_deed", "_law_by_hand_right", "_law_right"]
theorem run_eq (w : World) : HandSHeadRun.RunEq R (PySem.W.view R.prog [27]) hk ob 4000 loose w := by
  intro os
  kernel_rfl
theorem dfs {K : PySem.W.Frag} {h : Heap} {mg : Str → Option Value} (X : K.In h) (G : h.Ns mainGlobals mg) (c : He.SaysD fa fn K) : Dfs K mg where
  d_is_number := by
    obtain ⟨fdT, FT⟩ := c.def_ 0 (d := dd_is_number) rfl
    exact ⟨_, _, FT, He.glo_ok X G (c.fact 0 (f := .glo "is_number") rfl), FT.bindsN fun _ _ _ _ _ _ us hl => match us, hl with | [_], _ => rfl⟩
  d_tuple_of := by
    obtain ⟨fdT, FT⟩ := c.def_ 1 (d := dd_tuple_of) rfl
    exact ⟨_, _, FT, He.glo_ok X G (c.fact 1 (f := .glo "tuple_of") rfl), FT.bindsN fun _ _ _ _ _ _ us hl => match us, hl with | [_], _ => rfl⟩
  d_is_tuple_of := by
    obtain ⟨fdT, FT⟩ := c.def_ 2 (d := dd_is_tuple_of) rfl
    exact ⟨_, _, FT, He.glo_ok X G (c.fact 2 (f := .glo "is_tuple_of") rfl), FT.bindsN fun _ _ _ _ _ _ us hl => match us, hl with | [_, _], _ => rfl⟩
  d_is_letter := by
    obtain ⟨fdT, FT⟩ := c.def_ 3 (d := dd_is_letter) rfl
    exact ⟨_, _, FT, He.glo_ok X G (c.fact 3 (f := .glo "is_letter") rfl), FT.bindsN fun _ _ _ _ _ _ us hl => match us, hl with | [_], _ => rfl⟩
  d_is_word := by
    obtain ⟨fdT, FT⟩ := c.def_ 4 (d := dd_is_word) rfl
    exact ⟨_, _, FT, He.glo_ok X G (c.fact 4 (f := .glo "is_word") rfl), FT.bindsN fun _ _ _ _ _ _ us hl => match us, hl with | [_], _ => rfl⟩
  d_is_deed := by
    obtain ⟨fdT, FT⟩ := c.def_ 5 (d := dd_is_deed) rfl
    exact ⟨_, _, FT, He.glo_ok X G (c.fact 5 (f := .glo "is_deed") rfl), FT.bindsN fun _ _ _ _ _ _ us hl => match us, hl with | [_], _ => rfl⟩
  d_is_history := by
    obtain ⟨fdT, FT⟩ := c.def_ 6 (d := dd_is_history) rfl
    exact ⟨_, _, FT, He.glo_ok X G (c.fact 6 (f := .glo "is_history") rfl), FT.bindsN fun _ _ _ _ _ _ us hl => match us, hl with | [_], _ => rfl⟩
  d_is_sound_in := by
    obtain ⟨fdT, FT⟩ := c.def_ 7 (d := dd_is_sound_in) rfl
    exact ⟨_, _, FT, He.glo_ok X G (c.fact 7 (f := .glo "is_sound_in") rfl), FT.bindsN fun _ _ _ _ _ _ us hl => match us, hl with | [_], _ => rfl⟩
  d_is_sound := by
    obtain ⟨fdT, FT⟩ := c.def_ 8 (d := dd_is_sound) rfl
    exact ⟨_, _, FT, He.glo_ok X G (c.fact 8 (f := .glo "is_sound") rfl), FT.bindsN fun _ _ _ _ _ _ us hl => match us, hl with | [_], _ => rfl⟩
  d_histories_of := by
    obtain ⟨fdT, FT⟩ := c.def_ 9 (d := dd_histories_of) rfl
    exact ⟨_, _, FT, He.glo_ok X G (c.fact 9 (f := .glo "histories_of") rfl), FT.bindsN fun _ _ _ _ _ _ us hl => match us, hl with | [_, _], _ => rfl⟩
  d__law_box := by
    obtain ⟨fdT, FT⟩ := c.def_ 10 (d := dd__law_box) rfl
    exact ⟨_, _, FT, He.glo_ok X G (c.fact 10 (f := .glo "_law_box") rfl), FT.bindsN fun _ _ _ _ _ _ us hl => match us, hl with | [_, _], _ => rfl⟩
  d__law_take := by
    obtain ⟨fdT, FT⟩ := c.def_ 11 (d := dd__law_take) rfl
    exact ⟨_, _, FT, He.glo_ok X G (c.fact 11 (f := .glo "_law_take") rfl), FT.bindsN fun _ _ _ _ _ _ us hl => match us, hl with | [_, _], _ => rfl⟩
  d__law_cells := by
    obtain ⟨fdT, FT⟩ := c.def_ 12 (d := dd__law_cells) rfl
    exact ⟨_, _, FT, He.glo_ok X G (c.fact 12 (f := .glo "_law_cells") rfl), FT.bindsN fun _ _ _ _ _ _ us hl => match us, hl with | [_, _], _ => rfl⟩
  d__law_of := by
    obtain ⟨fdT, FT⟩ := c.def_ 13 (d := dd__law_of) rfl
    exact ⟨_, _, FT, He.glo_ok X G (c.fact 13 (f := .glo "_law_of") rfl), FT.bindsN fun _ _ _ _ _ _ us hl => match us, hl with | [_, _], _ => rfl⟩
  d__law_pick := by
    obtain ⟨fdT, FT⟩ := c.def_ 14 (d := dd__law_pick) rfl
    exact ⟨_, _, FT, He.glo_ok X G (c.fact 14 (f := .glo "_law_pick") rfl), FT.bindsN fun _ _ _ _ _ _ us hl => match us, hl with | [_, _, _], _ => rfl⟩
  d__law_same := by
    obtain ⟨fdT, FT⟩ := c.def_ 15 (d := dd__law_same) rfl
    exact ⟨_, _, FT, He.glo_ok X G (c.fact 15 (f := .glo "_law_same") rfl), FT.bindsN fun _ _ _ _ _ _ us hl => match us, hl with | [_, _], _ => rfl⟩
  d__law_lists := by
    obtain ⟨fdT, FT⟩ := c.def_ 16 (d := dd__law_lists) rfl
    exact ⟨_, _, FT, He.glo_ok X G (c.fact 16 (f := .glo "_law_lists") rfl), FT.bindsN fun _ _ _ _ _ _ us hl => match us, hl with | [_], _ => rfl⟩
  d__law_is_sound := by
    obtain ⟨fdT, FT⟩ := c.def_ 17 (d := dd__law_is_sound) rfl
    exact ⟨_, _, FT, He.glo_ok X G (c.fact 17 (f := .glo "_law_is_sound") rfl), FT.bindsN fun _ _ _ _ _ _ us hl => match us, hl with | [_], _ => rfl⟩
  d__law_all := by
    obtain ⟨fdT, FT⟩ := c.def_ 18 (d := dd__law_all) rfl
    exact ⟨_, _, FT, He.glo_ok X G (c.fact 18 (f := .glo "_law_all") rfl), FT.bindsN fun _ _ _ _ _ _ us hl => match us, hl with | [_, _], _ => rfl⟩
  d__law_thing := by
    obtain ⟨fdT, FT⟩ := c.def_ 19 (d := dd__law_thing) rfl
    exact ⟨_, _, FT, He.glo_ok X G (c.fact 19 (f := .glo "_law_thing") rfl), FT.bindsN fun _ _ _ _ _ _ us hl => match us, hl with | [_], _ => rfl⟩
  d__law_is_letter := by
    obtain ⟨fdT, FT⟩ := c.def_ 20 (d := dd__law_is_letter) rfl
    exact ⟨_, _, FT, He.glo_ok X G (c.fact 20 (f := .glo "_law_is_letter") rfl), FT.bindsN fun _ _ _ _ _ _ us hl => match us, hl with | [_], _ => rfl⟩
  d__law_is_deed := by
    obtain ⟨fdT, FT⟩ := c.def_ 21 (d := dd__law_is_deed) rfl
    exact ⟨_, _, FT, He.glo_ok X G (c.fact 21 (f := .glo "_law_is_deed") rfl), FT.bindsN fun _ _ _ _ _ _ us hl => match us, hl with | [_], _ => rfl⟩
  d__law_by_hand_right := by
    obtain ⟨fdT, FT⟩ := c.def_ 22 (d := dd__law_by_hand_right) rfl
    exact ⟨_, _, FT, He.glo_ok X G (c.fact 22 (f := .glo "_law_by_hand_right") rfl), FT.bindsN fun _ _ _ _ _ _ us hl => match us, hl with | [], _ => rfl⟩
  d__law_right := by
    obtain ⟨fdT, FT⟩ := c.def_ 23 (d := dd__law_right) rfl
    exact ⟨_, _, FT, He.glo_ok X G (c.fact 23 (f := .glo "_law_right") rfl), FT.bindsN fun _ _ _ _ _ _ us hl => match us, hl with | [_], _ => rfl⟩
  d_law := by
    obtain ⟨fdT, FT⟩ := c.def_ 24 (d := dd_law) rfl
    exact ⟨_, _, FT, He.glo_ok X G (c.fact 24 (f := .glo "law") rfl), FT.bindsN fun _ _ _ _ _ _ us hl => match us, hl with | [_], _ => rfl⟩
theorem bts {K : PySem.W.Frag} {h : Heap} {mg : Str → Option Value} (X : K.In h) (G : h.Ns mainGlobals mg) (c : He.SaysD fa fn K) : Bt mg where
  b_abs := He.free_ok X G (c.fact 25 (f := .free "abs") rfl)
  b_all := He.free_ok X G (c.fact 26 (f := .free "all") rfl)
  b_bool := He.free_ok X G (c.fact 27 (f := .free "bool") rfl)
  b_enumerate := He.free_ok X G (c.fact 28 (f := .free "enumerate") rfl)
  b_int := He.free_ok X G (c.fact 29 (f := .free "int") rfl)
  b_isinstance := He.free_ok X G (c.fact 30 (f := .free "isinstance") rfl)
  b_len := He.free_ok X G (c.fact 31 (f := .free "len") rfl)
  b_list := He.free_ok X G (c.fact 32 (f := .free "list") rfl)
  b_min := He.free_ok X G (c.fact 33 (f := .free "min") rfl)
  b_range := He.free_ok X G (c.fact 34 (f := .free "range") rfl)
  b_str := He.free_ok X G (c.fact 35 (f := .free "str") rfl)
  b_tuple := He.free_ok X G (c.fact 36 (f := .free "tuple") rfl)
  b_zip := He.free_ok X G (c.fact 37 (f := .free "zip") rfl)
/-- what is left of the law: the evaluator's answer -/
def Goal : Prop := ∃ k, k ≤ 200 ∧ ∀ ns : List Int, ns.length ≤ 63 → ∃ outs, run tbl k 24 [.fz (.scr (ns.map D.int))] = .ok (.fz (.bl true)) outs
theorem facts (hG : Goal) {P : Program} {w : World} {K : PySem.W.Frag} {h : Heap} {mg : Str → Option Value} {f : Addr} (X : K.In h) (G : h.Ns mainGlobals mg) (hfa : mg ("law" : Str) = some (.ref f)) (c : He.SaysD fa fn K) :
    ∃ fd : FuncData, (∀ (s : Shared) (v : Value), BindsTo s fd ⟨[v], []⟩ [("script", v)]) ∧ ∀ base : Heap, K.In base → base.Ns mainGlobals mg → FnOk P w K mg base (L2.CX P w) 200 f fd ["script"] (fun vs H Q _ => ∃ (a : Addr) (ns : List Int), vs = [.ref a] ∧ SqL K H a (ns.map V.int) ∧ ns.length ≤ 63 ∧ ∀ H', Q (.bl true) H') := by
  obtain ⟨fd, F⟩ := c.def_ 24 (d := dd_law) rfl
  have e := hfa.symm.trans (He.glo_ok X G (c.fact 24 (f := .glo "law") rfl))
  cases e
  have b := FunD.bindsA (ps := ["script"]) F fun _ _ _ _ _ _ us hl => match us, hl with | [_], _ => rfl
  obtain ⟨k, hk, hG⟩ := hG
  refine ⟨fd, fun s v => b s [v] rfl, fun base _ _ => ?_⟩
  refine FnOk.imp (sp := spI K (fun _ _ => False) (run tbl k) 24) ?_ fun vs H Q E ⟨a, ns, e, hS, hl, q⟩ => ?_
  · cases k with
    | zero => exact def_zero.mono (Nat.zero_le _)
    | succ k => exact (def_ok F sc_law (tbl := tbl) (f := 24) (fd' := fd_law) rfl rfl rfl (by decide) (by decide) (ok_law (bts X G c) (cx_ok (bts X G c) (dfs X G c) k) _)).mono hk
  obtain ⟨outs, ho⟩ := hG ns hl
  subst e
  exact law_sp hS ho q
end K02
open PySem PySem.W PySem.Calls PyProof.Rows
theorem K02.holds (hG : K02.Goal) : PySem.Challenge.rw_queuedsums_k02_whole_all_sound_histories.Holds := by
  w_on; o_law
  refine HandSHeadRun.head_any (r := OpenLaw.row PySem.Challenge.rw_queuedsums_k02_whole_all_sound_histories) (q := view (OpenLaw.row PySem.Challenge.rw_queuedsums_k02_whole_all_sound_histories).prog [27]) (H := K02.hk) (ob := K02.ob) (M := 4000) (loose := K02.loose) (d := HandSHeadRun.topDef (OpenLaw.row PySem.Challenge.rw_queuedsums_k02_whole_all_sound_histories).prog 27) (kwd := []) K02.ob_eq
    (by kernel_rfl) (fun s => by kernel_rfl) K02.run_eq (by kernel_rfl) (by kernel_rfl) (by kernel_rfl) (by rfl) (by first | assumption | decide +kernel) (by decide +kernel) ⟨rfl, rfl, rfl, rfl, rfl, by decide +kernel⟩ ?hw ?hc
  case hw => w_witness2
  case hc =>
    refine PI.walk_ofEX (law := PySem.Challenge.rw_queuedsums_k02_whole_all_sound_histories) (most := 63) (lev := 200) (par := "script") (cx := fun w => L2.CX (PySem.Challenge.rw_queuedsums_k02_whole_all_sound_histories).prog w) rfl (by decide) (by kernel_rfl) ⟨rfl, by decide, by decide⟩ ?F (fun _ _ _ _ _ z => PI.cx_none z)
    intro w mg fa h Y G hmg0
    obtain ⟨K, KX, c⟩ := Y
    have hmg : mg ("law" : PySem.Str) = some (.ref fa) := by
      have e : (HandSHeadRun.topDef (OpenLaw.row PySem.Challenge.rw_queuedsums_k02_whole_all_sound_histories).prog 27).name = ("law" : PySem.Str) := by kernel_rfl
      rw [← e]
      exact hmg0
    obtain ⟨fd, hb, hF⟩ := K02.facts hG (P := (PySem.Challenge.rw_queuedsums_k02_whole_all_sound_histories).prog) (w := w) KX G hmg c
    exact ⟨K, fd, _, KX, hb, fun H a ns hl _ hS => ⟨a, ns, rfl, hS, hl, fun _ => rfl⟩, hF⟩

end

theorem PySem.Challenge.cw_queuedsums_k02_whole_all_sound_histories_holds : PySem.Challenge.rw_queuedsums_k02_whole_all_sound_histories.Holds := by
  exact K02.holds ⟨60, by decide, K02.law_ok⟩
