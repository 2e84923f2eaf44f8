import PyProof.Rows.All
import Wide.All
import OpenK.AllK
import Wide.FinOn
import HandS.ForMost
import HandS.Exc
import HandS.Flow
import HandS.ExcOwn
import HandS.WordsExc
import HandS.Zip
import HandS.IsInst
import HandS.TupAny
import HandS.Deep
import HandS.Defaults
import HandS.Head0
import HandS.Head1
import HandS.Head2
import HandS.HeadEnd
import HandS.HeadHook1
import HandS.HeadHook2
import KE.GoesEnum
import KE.GoesZip
import KE.GoesMore
import HandS.TupMul
import HandS.Style
import KE.KExcInit
import HandS.ExcField
import HandS.ExcIs
import HandS.HeadHook4
import HandS.TryMany
import HandS.ExcBuiltin
import Lean
import PySem.Challenge.RW_queuedsums_k01_whole_what_stands_and_is
set_option Elab.async false
set_option linter.all false
set_option maxRecDepth 100000
section
set_option maxRecDepth 100000
set_option maxHeartbeats 1000000
/-! Pi1: data, frames' entries, the relation of pure data with the layer's heap. -/
namespace PI
open PySem PySem.Spec PyProof.Rows L2

/-- plain data -/
inductive D where
  | non | bl (b : Bool) | int (i : Int) | str (x : Str)
  | tup (xs : List D) | lst (xs : List D)
  | dct (ks vs : List D) | set (xs : List D)
  | exc (c : Str) (ps : List D)
  /-- a list that stands elsewhere and is only read: the script -/
  | scr (xs : List D)

/-- an entry of a frame, or a result: frozen data, or an object that nobody else holds -/
inductive Ent where
  | un | fz (d : D) | ow (d : D)
abbrev En := List Ent
def Ent.d : Ent → Option D
  | .un => none
  | .fz d => some d
  | .ow d => some d

mutual
def Rep (K : PySem.W.Frag) (F : Hp) : D → V → Prop
  | .non, v => v = .non
  | .bl b, v => v = .bl b
  | .int i, v => v = .int i
  | .str x, v => v = .str x
  | .tup ds, v => ∃ a vs, v = .ref a ∧ SqT K F a vs ∧ RepAll K F ds vs
  | .lst ds, v => ∃ a vs, v = .ref a ∧ F a = some (.lst vs) ∧ RepAll K F ds vs
  | .scr ds, v => ∃ a vs, v = .ref a ∧ SqL K F a vs ∧ RepAll K F ds vs
  | .dct _ _, _ => False
  | .set _, _ => False
  | .exc _ _, _ => False
def RepAll (K : PySem.W.Frag) (F : Hp) : List D → List V → Prop
  | [], vs => vs = []
  | d :: ds, vs => ∃ v r, vs = v :: r ∧ Rep K F d v ∧ RepAll K F ds r
end

def FLe (F H : Hp) : Prop := ∀ a o, F a = some o → H a = some o
theorem FLe.refl {F : Hp} : FLe F F := fun _ _ h => h
theorem FLe.trans {F G H : Hp} (a : FLe F G) (b : FLe G H) : FLe F H := fun x o h => b x o (a x o h)
theorem Rd.mono {F H : Hp} (l : FLe F H) {a : Addr} {u : HO} (r : Rd F a u) : Rd H a u := by
  rcases r with r | ⟨o, r⟩
  · exact .inl (l _ _ r)
  · exact .inr ⟨o, l _ _ r⟩
theorem SqT.mono {K : PySem.W.Frag} {F H : Hp} (l : FLe F H) {a : Addr} {xs : List V} (r : SqT K F a xs) : SqT K H a xs := by
  rcases r with r | r
  · exact .inl (Rd.mono l r)
  · exact .inr r
theorem SqL.mono {K : PySem.W.Frag} {F H : Hp} (l : FLe F H) {a : Addr} {xs : List V} (r : SqL K F a xs) : SqL K H a xs := by
  rcases r with r | r
  · exact .inl (Rd.mono l r)
  · exact .inr r
mutual
theorem Rep.mono {K : PySem.W.Frag} {F H : Hp} (l : FLe F H) : ∀ (d : D) (v : V), Rep K F d v → Rep K H d v
  | .non, v, h => h
  | .bl b, v, h => h
  | .int i, v, h => h
  | .str x, v, h => h
  | .tup ds, v, h => by
    obtain ⟨a, vs, e, s, r⟩ := h
    exact ⟨a, vs, e, SqT.mono l s, RepAll.mono l ds vs r⟩
  | .lst ds, v, h => by
    obtain ⟨a, vs, e, s, r⟩ := h
    exact ⟨a, vs, e, l _ _ s, RepAll.mono l ds vs r⟩
  | .scr ds, v, h => by
    obtain ⟨a, vs, e, s, r⟩ := h
    exact ⟨a, vs, e, SqL.mono l s, RepAll.mono l ds vs r⟩
  | .dct _ _, _, h => h
  | .set _, _, h => h
  | .exc _ _, _, h => h
theorem RepAll.mono {K : PySem.W.Frag} {F H : Hp} (l : FLe F H) : ∀ (ds : List D) (vs : List V), RepAll K F ds vs → RepAll K H ds vs
  | [], vs, h => h
  | d :: ds, vs, h => by
    obtain ⟨v, r, e, h1, h2⟩ := h
    exact ⟨v, r, e, Rep.mono l d v h1, RepAll.mono l ds r h2⟩
end
theorem RepAll.length {K : PySem.W.Frag} {F : Hp} : ∀ {ds : List D} {vs : List V}, RepAll K F ds vs → vs.length = ds.length
  | [], vs, h => by cases (show vs = [] from h); rfl
  | d :: ds, vs, h => by
    obtain ⟨v, r, rfl, _, h2⟩ := h
    rw [List.length_cons, List.length_cons, RepAll.length h2]
theorem RepAll.append {K : PySem.W.Frag} {F : Hp} : ∀ {ds es : List D} {vs ws : List V}, RepAll K F ds vs → RepAll K F es ws → RepAll K F (ds ++ es) (vs ++ ws)
  | [], es, vs, ws, h, k => by cases (show vs = [] from h); exact k
  | d :: ds, es, vs, ws, h, k => by
    obtain ⟨v, r, rfl, h1, h2⟩ := h
    exact ⟨v, r ++ ws, rfl, h1, RepAll.append h2 k⟩
theorem RepAll.get {K : PySem.W.Frag} {F : Hp} : ∀ {ds : List D} {vs : List V}, RepAll K F ds vs → ∀ {i : Nat} {d : D}, ds[i]? = some d → ∃ v, vs[i]? = some v ∧ Rep K F d v
  | [], vs, h, i, d, e => by simp at e
  | d :: ds, vs, h, 0, d', e => by
    obtain ⟨v, r, rfl, h1, h2⟩ := h
    simp at e; subst e
    exact ⟨v, rfl, h1⟩
  | d :: ds, vs, h, i + 1, d', e => by
    obtain ⟨v, r, rfl, h1, h2⟩ := h
    obtain ⟨v', e', h'⟩ := RepAll.get h2 (i := i) (by simpa using e)
    exact ⟨v', by simpa using e', h'⟩
theorem RepAll.take {K : PySem.W.Frag} {F : Hp} : ∀ {ds : List D} {vs : List V} (n : Nat), RepAll K F ds vs → RepAll K F (ds.take n) (vs.take n)
  | [], vs, n, h => by cases (show vs = [] from h); simp [RepAll]
  | d :: ds, vs, 0, h => by simp [RepAll]
  | d :: ds, vs, n + 1, h => by
    obtain ⟨v, r, rfl, h1, h2⟩ := h
    exact ⟨v, r.take n, rfl, h1, RepAll.take n h2⟩
theorem RepAll.drop {K : PySem.W.Frag} {F : Hp} : ∀ {ds : List D} {vs : List V} (n : Nat), RepAll K F ds vs → RepAll K F (ds.drop n) (vs.drop n)
  | [], vs, n, h => by cases (show vs = [] from h); simp [RepAll]
  | d :: ds, vs, 0, h => h
  | d :: ds, vs, n + 1, h => by
    obtain ⟨v, r, rfl, h1, h2⟩ := h
    exact RepAll.drop n h2
theorem RepAll.set {K : PySem.W.Frag} {F : Hp} {d : D} {v : V} (hd : Rep K F d v) : ∀ {ds : List D} {vs : List V} (i : Nat), RepAll K F ds vs → RepAll K F (ds.set i d) (vs.set i v)
  | [], vs, i, h => by cases (show vs = [] from h); simp [RepAll]
  | d' :: ds, vs, 0, h => by
    obtain ⟨v', r, rfl, h1, h2⟩ := h
    exact ⟨v, r, rfl, hd, h2⟩
  | d' :: ds, vs, i + 1, h => by
    obtain ⟨v', r, rfl, h1, h2⟩ := h
    exact ⟨v', r.set i v, rfl, h1, RepAll.set hd i h2⟩
theorem RepAll.eraseIdx {K : PySem.W.Frag} {F : Hp} : ∀ {ds : List D} {vs : List V} (i : Nat), RepAll K F ds vs → RepAll K F (ds.eraseIdx i) (vs.eraseIdx i)
  | [], vs, i, h => by cases (show vs = [] from h); simp [RepAll]
  | d' :: ds, vs, 0, h => by
    obtain ⟨v', r, rfl, h1, h2⟩ := h
    exact h2
  | d' :: ds, vs, i + 1, h => by
    obtain ⟨v', r, rfl, h1, h2⟩ := h
    exact ⟨v', r.eraseIdx i, rfl, h1, RepAll.eraseIdx i h2⟩
theorem RepAll.dropLast {K : PySem.W.Frag} {F : Hp} {ds : List D} {vs : List V} (h : RepAll K F ds vs) : RepAll K F ds.dropLast vs.dropLast := by
  rw [List.dropLast_eq_take, List.dropLast_eq_take, h.length]
  exact RepAll.take _ h
theorem RepAll.reverse {K : PySem.W.Frag} {F : Hp} : ∀ {ds : List D} {vs : List V}, RepAll K F ds vs → RepAll K F ds.reverse vs.reverse
  | [], vs, h => by cases (show vs = [] from h); simp [RepAll]
  | d :: ds, vs, h => by
    obtain ⟨v, r, rfl, h1, h2⟩ := h
    rw [List.reverse_cons, List.reverse_cons]
    exact RepAll.append (RepAll.reverse h2) ⟨v, [], rfl, h1, rfl⟩
theorem RepAll.flatrep {K : PySem.W.Frag} {F : Hp} {ds : List D} {vs : List V} (h : RepAll K F ds vs) : ∀ n : Nat, RepAll K F (List.replicate n ds).flatten (List.replicate n vs).flatten
  | 0 => rfl
  | n + 1 => by
    rw [List.replicate_succ, List.replicate_succ, List.flatten_cons, List.flatten_cons]
    exact RepAll.append h (RepAll.flatrep h n)
theorem RepAll.nil {K : PySem.W.Frag} {F : Hp} : RepAll K F [] [] := rfl
theorem RepAll.cons {K : PySem.W.Frag} {F : Hp} {d : D} {ds : List D} {v : V} {vs : List V} (h : Rep K F d v) (t : RepAll K F ds vs) : RepAll K F (d :: ds) (v :: vs) := ⟨v, vs, rfl, h, t⟩

/-- an object of one holder -/
def OwnAt (K : PySem.W.Frag) (F H : Hp) (a : Addr) : D → Prop
  | .lst ds => ∃ vs, H a = some (.lst vs) ∧ RepAll K F ds vs
  | _ => False
def EntOk (K : PySem.W.Frag) (F H : Hp) : Ent → V → Prop
  | .un, _ => True
  | .fz d, v => Rep K F d v
  | .ow d, v => ∃ a, v = .ref a ∧ F a = none ∧ OwnAt K F H a d
theorem OwnAt.mono {K : PySem.W.Frag} {F F' H H' : Hp} {a : Addr} {d : D} (l : FLe F F') (e : H' a = H a) (h : OwnAt K F H a d) : OwnAt K F' H' a d := by
  cases d with
  | lst ds =>
    obtain ⟨vs, h1, h2⟩ := h
    exact ⟨vs, e.trans h1, RepAll.mono l _ _ h2⟩
  | _ => exact h
theorem OwnAt.some {K : PySem.W.Frag} {F H : Hp} {a : Addr} {d : D} (h : OwnAt K F H a d) : ∃ o, H a = some o := by
  cases d with
  | lst ds =>
    obtain ⟨vs, h1, h2⟩ := h
    exact ⟨_, h1⟩
  | _ => exact h.elim
theorem OwnAt.read {K : PySem.W.Frag} {F H : Hp} {a : Addr} {d : D} (l : FLe F H) (h : OwnAt K F H a d) : Rep K H d (.ref a) := by
  cases d with
  | lst ds =>
    obtain ⟨vs, h1, h2⟩ := h
    exact ⟨a, vs, rfl, h1, RepAll.mono l _ _ h2⟩
  | _ => exact h.elim
/-- what an entry says may be read -/
theorem EntOk.read {K : PySem.W.Frag} {F H : Hp} {r : Ent} {v : V} {d : D} (l : FLe F H) (h : EntOk K F H r v) (e : r.d = some d) : Rep K H d v := by
  cases r with
  | un => cases e
  | fz d' => cases e; exact Rep.mono l _ _ h
  | ow d' =>
    cases e
    obtain ⟨a, rfl, _, h3⟩ := h
    exact h3.read l

def Owned (env : En) (σ : L2.St) (a : Addr) : Prop := ∃ (i : Nat) (d : D), env[i]? = some (Ent.ow d) ∧ σ[i]? = some (some (V.ref a))
structure St (K : PySem.W.Frag) (F : Hp) (env : En) (σ : L2.St) (H : Hp) : Prop where
  len : env.length = σ.length
  le : FLe F H
  ent : ∀ (i : Nat) (r : Ent), env[i]? = some r → r ≠ .un → ∃ v : V, σ[i]? = some (some v) ∧ EntOk K F H r v
  sep : ∀ (i j : Nat) (d e : D) (a : Addr), env[i]? = some (.ow d) → env[j]? = some (.ow e) → σ[i]? = some (some (.ref a)) → σ[j]? = some (some (.ref a)) → i = j
structure Ext (F : Hp) (env : En) (σ : L2.St) (H : Hp) (F' : Hp) (env' : En) (σ' : L2.St) (H' : Hp) : Prop where
  le : FLe F F'
  kept : ∀ a o, H a = some o → ¬ Owned env σ a → H' a = some o
  own : ∀ a, Owned env' σ' a → Owned env σ a ∨ H a = none
  new : ∀ a o, F' a = some o → F a = none → Owned env σ a ∨ H a = none

theorem Ext.refl {F : Hp} {env : En} {σ : L2.St} {H : Hp} : Ext F env σ H F env σ H :=
  ⟨FLe.refl, fun _ _ h _ => h, fun _ h => .inl h, fun _ _ h h' => by rw [h] at h'; cases h'⟩
theorem Ext.trans {F F1 F2 : Hp} {e e1 e2 : En} {σ σ1 σ2 : L2.St} {H H1 H2 : Hp} (a : Ext F e σ H F1 e1 σ1 H1) (b : Ext F1 e1 σ1 H1 F2 e2 σ2 H2) : Ext F e σ H F2 e2 σ2 H2 where
  le := a.le.trans b.le
  kept := fun x o h n => b.kept x o (a.kept x o h n) fun q => (a.own x q).elim n fun z => by rw [h] at z; cases z
  own := fun x q => by
    rcases b.own x q with q | q
    · exact a.own x q
    · cases h : H x with
      | none => exact .inr rfl
      | some o =>
        refine .inl (Classical.byContradiction fun n => ?_)
        rw [a.kept x o h n] at q; cases q
  new := fun x o h n => by
    cases h1 : F1 x with
    | some o1 => exact a.new x o1 h1 n
    | none =>
      rcases b.new x o h h1 with q | q
      · exact a.own x q
      · cases h : H x with
        | none => exact .inr rfl
        | some o =>
          refine .inl (Classical.byContradiction fun n => ?_)
          rw [a.kept x o h n] at q; cases q

theorem St.slot {K : PySem.W.Frag} {F : Hp} {env : En} {σ : L2.St} {H : Hp} (S : St K F env σ H) {i : Nat} {r : Ent} (e : env[i]? = some r) (hr : r ≠ .un) : ∃ v : V, σ[i]? = some (some v) ∧ EntOk K F H r v := S.ent i r e hr
theorem owned_app {env pe : En} {σ ps : L2.St} {a : Addr} (hl : env.length = σ.length) : Owned (env ++ pe) (σ ++ ps) a ↔ Owned env σ a ∨ Owned pe ps a := by
  constructor
  · rintro ⟨i, d, h1, h2⟩
    by_cases hi : i < env.length
    · rw [List.getElem?_append_left hi] at h1
      rw [List.getElem?_append_left (by omega)] at h2
      exact .inl ⟨i, d, h1, h2⟩
    · rw [List.getElem?_append_right (by omega)] at h1
      rw [List.getElem?_append_right (by omega), ← hl] at h2
      exact .inr ⟨_, d, h1, h2⟩
  · rintro (⟨i, d, h1, h2⟩ | ⟨i, d, h1, h2⟩)
    · have hi : i < env.length := (List.getElem?_eq_some_iff.mp h1).1
      refine ⟨i, d, ?_, ?_⟩
      · rw [List.getElem?_append_left hi]; exact h1
      · rw [List.getElem?_append_left (by omega)]; exact h2
    · refine ⟨env.length + i, d, ?_, ?_⟩
      · rw [List.getElem?_append_right (by omega), Nat.add_sub_cancel_left]; exact h1
      · rw [List.getElem?_append_right (by omega), ← hl, Nat.add_sub_cancel_left]; exact h2
/-- the first part alone -/
theorem St.left {K : PySem.W.Frag} {F : Hp} {env pe : En} {σ ps : L2.St} {H : Hp} (S : St K F (env ++ pe) (σ ++ ps) H) (hl : env.length = σ.length) : St K F env σ H where
  len := hl
  le := S.le
  ent := fun i r e hr => by
    have hi : i < env.length := (List.getElem?_eq_some_iff.mp e).1
    obtain ⟨v, h1, h2⟩ := S.ent i r (by rw [List.getElem?_append_left hi]; exact e) hr
    rw [List.getElem?_append_left (by omega)] at h1
    exact ⟨v, h1, h2⟩
  sep := fun i j d e a h1 h2 h3 h4 => by
    have hi : i < env.length := (List.getElem?_eq_some_iff.mp h1).1
    have hj : j < env.length := (List.getElem?_eq_some_iff.mp h2).1
    exact S.sep i j d e a (by rw [List.getElem?_append_left hi]; exact h1) (by rw [List.getElem?_append_left hj]; exact h2) (by rw [List.getElem?_append_left (by omega)]; exact h3) (by rw [List.getElem?_append_left (by omega)]; exact h4)
theorem St.right {K : PySem.W.Frag} {F : Hp} {env pe : En} {σ ps : L2.St} {H : Hp} (S : St K F (env ++ pe) (σ ++ ps) H) (hl : env.length = σ.length) : St K F pe ps H where
  len := by have := S.len; simp only [List.length_append] at this; omega
  le := S.le
  ent := fun i r e hr => by
    obtain ⟨v, h1, h2⟩ := S.ent (env.length + i) r (by rw [List.getElem?_append_right (by omega), Nat.add_sub_cancel_left]; exact e) hr
    rw [List.getElem?_append_right (by omega), ← hl, Nat.add_sub_cancel_left] at h1
    exact ⟨v, h1, h2⟩
  sep := fun i j d e a h1 h2 h3 h4 => by
    have := S.sep (env.length + i) (env.length + j) d e a (by rw [List.getElem?_append_right (by omega), Nat.add_sub_cancel_left]; exact h1) (by rw [List.getElem?_append_right (by omega), Nat.add_sub_cancel_left]; exact h2) (by rw [List.getElem?_append_right (by omega), ← hl, Nat.add_sub_cancel_left]; exact h3) (by rw [List.getElem?_append_right (by omega), ← hl, Nat.add_sub_cancel_left]; exact h4)
    omega
/-- what another part holds is held on -/
theorem St.frame {K : PySem.W.Frag} {F F' : Hp} {env pe env' : En} {σ ps σ' : L2.St} {H H' : Hp} (S : St K F (env ++ pe) (σ ++ ps) H) (hl : env.length = σ.length)
    (S' : St K F' env' σ' H') (x : Ext F env σ H F' env' σ' H') : St K F' (env' ++ pe) (σ' ++ ps) H' := by
  have SR := S.right hl
  have hp : pe.length = ps.length := SR.len
  have disj : ∀ a, Owned pe ps a → ¬ Owned env σ a := by
    rintro a ⟨j, e, h3, h4⟩ ⟨i, d, h1, h2⟩
    have hi : i < env.length := (List.getElem?_eq_some_iff.mp h1).1
    have := S.sep i (env.length + j) d e a (by rw [List.getElem?_append_left hi]; exact h1) (by rw [List.getElem?_append_right (by omega), Nat.add_sub_cancel_left]; exact h3) (by rw [List.getElem?_append_left (by omega)]; exact h2) (by rw [List.getElem?_append_right (by omega), ← hl, Nat.add_sub_cancel_left]; exact h4)
    omega
  have there : ∀ a, Owned pe ps a → ∃ o, H a = some o := by
    rintro a ⟨j, e, h3, h4⟩
    obtain ⟨v, q1, q2⟩ := SR.ent j _ h3 (by simp)
    rw [h4] at q1; cases q1
    obtain ⟨b, q3, _, q4⟩ := q2
    cases q3
    exact q4.some
  refine ⟨by rw [List.length_append, List.length_append, S'.len, hp], S'.le, fun i r e hr => ?_, fun i j d e a h1 h2 h3 h4 => ?_⟩
  · by_cases hi : i < env'.length
    · rw [List.getElem?_append_left hi] at e
      obtain ⟨v, h1, h2⟩ := S'.ent i r e hr
      exact ⟨v, by rw [List.getElem?_append_left (by have := S'.len; omega)]; exact h1, h2⟩
    · rw [List.getElem?_append_right (by omega)] at e
      obtain ⟨v, h1, h2⟩ := SR.ent _ r e hr
      refine ⟨v, by rw [List.getElem?_append_right (by have := S'.len; omega), ← S'.len]; exact h1, ?_⟩
      cases r with
      | un => trivial
      | fz d => exact Rep.mono x.le _ _ h2
      | ow d =>
        obtain ⟨a, rfl, h3, h4⟩ := h2
        have ho : Owned pe ps a := ⟨_, d, e, h1⟩
        obtain ⟨o, h5⟩ := there a ho
        refine ⟨a, rfl, ?_, h4.mono x.le ((x.kept a o h5 (disj a ho)).trans h5.symm)⟩
        cases q : F' a with
        | none => rfl
        | some u =>
          rcases x.new a u q h3 with z | z
          · exact (disj a ho z).elim
          · rw [z] at h5; cases h5
  · have le' := S'.len
    have noc : ∀ (i j : Nat) (d e : D), env'[i]? = some (.ow d) → pe[j]? = some (.ow e) → σ'[i]? = some (some (.ref a)) → ps[j]? = some (some (.ref a)) → False := fun i j d e q1 q2 q3 q4 => by
      have ho : Owned pe ps a := ⟨j, e, q2, q4⟩
      rcases x.own a ⟨i, d, q1, q3⟩ with z | z
      · exact disj a ho z
      · obtain ⟨o, h5⟩ := there a ho
        rw [z] at h5; cases h5
    by_cases hi : i < env'.length <;> by_cases hj : j < env'.length
    · rw [List.getElem?_append_left (by omega)] at h1 h2 h3 h4
      exact S'.sep i j d e a h1 h2 h3 h4
    · rw [List.getElem?_append_left (by omega)] at h1 h3
      rw [List.getElem?_append_right (by omega)] at h2 h4
      rw [← le'] at h4
      exact (noc _ _ _ _ h1 h2 h3 h4).elim
    · rw [List.getElem?_append_left (by omega)] at h2 h4
      rw [List.getElem?_append_right (by omega)] at h1 h3
      rw [← le'] at h3
      exact (noc _ _ _ _ h2 h1 h4 h3).elim
    · rw [List.getElem?_append_right (by omega)] at h1 h2 h3 h4
      rw [← le'] at h3 h4
      have := SR.sep _ _ d e a h1 h2 h3 h4
      omega
/-- the extension, beside another part -/
theorem Ext.frame {F F' : Hp} {env pe env' : En} {σ ps σ' : L2.St} {H H' : Hp} (hl : env.length = σ.length) (hl' : env'.length = σ'.length) (x : Ext F env σ H F' env' σ' H') : Ext F (env ++ pe) (σ ++ ps) H F' (env' ++ pe) (σ' ++ ps) H' where
  le := x.le
  kept := fun a o h n => x.kept a o h fun q => n ((owned_app hl).mpr (.inl q))
  own := fun a q => by
    rcases (owned_app hl').mp q with q | q
    · rcases x.own a q with z | z
      · exact .inl ((owned_app hl).mpr (.inl z))
      · exact .inr z
    · exact .inl ((owned_app hl).mpr (.inr q))
  new := fun a o h n => by
    rcases x.new a o h n with z | z
    · exact .inl ((owned_app hl).mpr (.inl z))
    · exact .inr z

/-- a result beside what is there: it is there already, or new -/
structure New (K : PySem.W.Frag) (F H F' H' : Hp) (r : Ent) (v : V) : Prop where
  le : FLe F F'
  le' : FLe F' H'
  same : Same H H'
  new : ∀ a o, F' a = some o → F a = none → H a = none
  ent : EntOk K F' H' r v
  own : ∀ d, r = .ow d → ∃ a, v = .ref a ∧ H a = none
theorem getElem?_app1 {α : Type} {l : List α} {x y : α} {i : Nat} (h : (l ++ [x])[i]? = some y) : l[i]? = some y ∨ (i = l.length ∧ y = x) := by
  by_cases hi : i < l.length
  · rw [List.getElem?_append_left hi] at h; exact .inl h
  · rw [List.getElem?_append_right (by omega)] at h
    have : i - l.length = 0 := by
      have := (List.getElem?_eq_some_iff.mp h).1
      simp at this; omega
    rw [this] at h
    simp at h
    exact .inr ⟨by omega, h.symm⟩
theorem St.new {K : PySem.W.Frag} {F F' H H' : Hp} {env : En} {σ : L2.St} {r : Ent} {v : V} (S : St K F env σ H) (n : New K F H F' H' r v) :
    St K F' (env ++ [r]) (σ ++ [some v]) H' ∧ Ext F env σ H F' (env ++ [r]) (σ ++ [some v]) H' := by
  have old : ∀ a o, H a = some o → F a = none → F' a = none := fun a o h q => by
    cases z : F' a with
    | none => rfl
    | some u => have := n.new a u z q; rw [h] at this; cases this
  have ents : ∀ (i : Nat) (r' : Ent), env[i]? = some r' → r' ≠ .un → ∃ v : V, σ[i]? = some (some v) ∧ EntOk K F' H' r' v := fun i r' e hr => by
    obtain ⟨v', h1, h2⟩ := S.ent i r' e hr
    refine ⟨v', h1, ?_⟩
    cases r' with
    | un => trivial
    | fz d => exact Rep.mono n.le _ _ h2
    | ow d =>
      obtain ⟨a, rfl, h3, h4⟩ := h2
      obtain ⟨o, ho⟩ := h4.some
      exact ⟨a, rfl, old a o ho h3, h4.mono n.le ((n.same a o ho).trans ho.symm)⟩
  have tracked : ∀ (i : Nat) (d : D) (a : Addr), env[i]? = some (.ow d) → σ[i]? = some (some (.ref a)) → ∃ o, H a = some o := fun i d a e1 e2 => by
    obtain ⟨v', h1, h2⟩ := S.ent i _ e1 (by simp)
    rw [e2] at h1; cases h1
    obtain ⟨b, q, _, h4⟩ := h2
    cases q
    exact h4.some
  refine ⟨⟨by simp [S.len], n.le', fun i r' e hr => ?_, fun i j d e a h1 h2 h3 h4 => ?_⟩, ⟨n.le, fun a o h _ => n.same a o h, fun a q => ?_, fun a o h z => .inr (n.new a o h z)⟩⟩
  · rcases getElem?_app1 e with e | ⟨rfl, rfl⟩
    · obtain ⟨v', h1, h2⟩ := ents i r' e hr
      exact ⟨v', by rw [List.getElem?_append_left (List.getElem?_eq_some_iff.mp h1).1]; exact h1, h2⟩
    · exact ⟨v, by rw [S.len]; simp, n.ent⟩
  · rcases getElem?_app1 h1 with h1 | ⟨rfl, e1⟩ <;> rcases getElem?_app1 h2 with h2 | ⟨rfl, e2⟩
    · have hi := (List.getElem?_eq_some_iff.mp h1).1
      have hj := (List.getElem?_eq_some_iff.mp h2).1
      rw [List.getElem?_append_left (by rw [← S.len]; exact hi)] at h3
      rw [List.getElem?_append_left (by rw [← S.len]; exact hj)] at h4
      exact S.sep i j d e a h1 h2 h3 h4
    · have hi := (List.getElem?_eq_some_iff.mp h1).1
      rw [List.getElem?_append_left (by rw [← S.len]; exact hi)] at h3
      rw [S.len] at h4; simp at h4; subst h4
      obtain ⟨b, q, hb⟩ := n.own e e2.symm
      cases q
      obtain ⟨o, ho⟩ := tracked i d _ h1 h3
      rw [hb] at ho; cases ho
    · have hj := (List.getElem?_eq_some_iff.mp h2).1
      rw [List.getElem?_append_left (by rw [← S.len]; exact hj)] at h4
      rw [S.len] at h3; simp at h3; subst h3
      obtain ⟨b, q, hb⟩ := n.own d e1.symm
      cases q
      obtain ⟨o, ho⟩ := tracked j e _ h2 h4
      rw [hb] at ho; cases ho
    · rfl
  · obtain ⟨i, d, h1, h2⟩ := q
    rcases getElem?_app1 h1 with h1 | ⟨rfl, e1⟩
    · have hi := (List.getElem?_eq_some_iff.mp h1).1
      rw [List.getElem?_append_left (by rw [← S.len]; exact hi)] at h2
      exact .inl ⟨i, d, h1, h2⟩
    · rw [S.len] at h2; simp at h2; subst h2
      obtain ⟨b, q, hb⟩ := n.own d e1.symm
      cases q
      exact .inr hb
end PI

end

section
set_option maxRecDepth 100000
set_option maxHeartbeats 1000000
/-! Pi2: the pure evaluator. -/
namespace PI
open PySem PySem.Spec PyProof.Rows L2

inductive Res (α : Type) where
  | ok (a : α) (e : En) | ex (c : Str) (ps : List D) (e : En) | no
def Res.bind {α β : Type} (r : Res α) (f : α → En → Res β) : Res β :=
  match r with
  | .ok a e => f a e
  | .ex c ps e => .ex c ps e
  | .no => .no
def Res.wish {α : Type} (r : Res α) (p : α → En → Prop) (q : Str → List D → En → Prop) : Prop :=
  match r with
  | .ok a e => p a e
  | .ex c ps e => q c ps e
  | .no => False
inductive CRes where
  | ok (r : Ent) (outs : En) | ex (c : Str) (ps : List D) (outs : En) | no
/-- what the calls do: by the number of the def -/
abbrev Calls := Nat → List Ent → CRes
inductive Opd where
  | sl (i : Nat) | vl (r : Ent)
def Opd.ent (e : En) : Opd → Ent
  | .sl i => (e[i]?).getD .un
  | .vl r => r
def Opd.pe : Opd → Ent
  | .sl _ => .un
  | .vl r => r
def allD (e : En) : List Opd → Option (List D)
  | [] => some []
  | x :: xs => match (x.ent e).d, allD e xs with
    | some d, some ds => some (d :: ds)
    | _, _ => none

inductive Tg where
  | nm (i : Nat) | tp (ts : List Tg)
mutual
def Tg.asg (pw : List Nat) : Tg → D → En → Option En
  | .nm i, d, e => if i ∈ pw then none else some (e.set i (.fz d))
  | .tp ts, d, e => match d with
    | .tup ds => Tg.asgs pw ts ds e
    | _ => none
def Tg.asgs (pw : List Nat) : List Tg → List D → En → Option En
  | [], ds, e => match ds with
    | [] => some e
    | _ => none
  | t :: ts, ds, e => match ds with
    | d :: ds => match Tg.asg pw t d e with
      | some e' => Tg.asgs pw ts ds e'
      | none => none
    | [] => none
end

def cutD (xs : List D) (lo hi : Option Int) : List D := List.take (HT.sIx xs.length xs.length hi - HT.sIx xs.length 0 lo) (List.drop (HT.sIx xs.length 0 lo) xs)
mutual
inductive E where
  | lit (d : D) | var (i : Nat) | con (d : D)
  | tup (es : List E) | lst (es : List E)
  | pn (f : List D → Option Ent) (es : List E)
  | and (a b : E) | or (a b : E) | not (a : E) | ite (c : T) (a b : E)
  | chain (f g : List D → Option Ent) (a b c : E)
  | call (f : Nat) (ms : List Bool) (es : List E)
  | comp (own : List Nat) (tg : Tg) (ik : List D → Option (List D)) (ies : List E) (cs : List T) (elt : E)
  | popL (i : Nat) | popA (i : Nat) (ix : E)
  | sl (a : E) (lo hi : List E)
inductive T where
  | e (x : E) | and (a b : T) | or (a b : T) | not (a : T)
end

def truth : D → Option Bool
  | .non => some false
  | .bl b => some b
  | .int i => some (i != 0)
  | .str x => if x.length ≤ sizeLine then some (x.length != 0) else none
  | .tup xs => some (!xs.isEmpty)
  | .lst xs => some (!xs.isEmpty)
  | _ => none
def isVar : E → Option Nat
  | .var i => some i
  | _ => none
/-- an operand: a frame's own object is not taken, but looked at when it is needed -/
def opnd (m : En → Res Ent) (a : E) (e : En) : Res Opd :=
  match isVar a with
  | some i => match e[i]? with
    | some (.fz d) => .ok (.vl (.fz d)) e
    | some (.ow _) => .ok (.sl i) e
    | _ => .no
  | none => (m e).bind fun r e => .ok (.vl r) e
def frz (r : Ent) (e : En) : Res D :=
  match r.d with
  | some d => .ok d e
  | none => .no
def frozen (m : En → Res Ent) (e : En) : Res D := (m e).bind frz
def retE (o : Option Ent) (e : En) : Res Ent :=
  match o with
  | some .un => .no
  | some r => .ok r e
  | none => .no
def onD (f : List D → Option Ent) (o : Option (List D)) (e : En) : Res Ent :=
  match o with
  | some ds => retE (f ds) e
  | none => .no
def boolE (r : Ent) (e : En) : Res Bool :=
  match r with
  | .fz (.bl b) => .ok b e
  | _ => .no
def onB (r : Ent) (e : En) : Res Bool :=
  match r.d.bind truth with
  | some b => .ok b e
  | none => .no
def slots : List Opd → List Nat
  | [] => []
  | .sl i :: xs => i :: slots xs
  | .vl _ :: xs => slots xs
def putBack : List Opd → En → En → En
  | [], _, e => e
  | _ :: _, [], e => e
  | .sl i :: xs, o :: os, e => putBack xs os (e.set i o)
  | .vl _ :: xs, _ :: os, e => putBack xs os e
def callWith (C : Calls) (f : Nat) (xs : List Opd) (e : En) : Res Ent :=
  if (slots xs).Nodup then
    match C f (xs.map (Opd.ent e)) with
    | .ok r outs => .ok r (putBack xs outs e)
    | .ex c ps outs => .ex c ps (putBack xs outs e)
    | .no => .no
  else .no
def wipeE (e : En) : List Nat → En
  | [] => e
  | i :: is => (wipeE e is).set i .un
def backE (e0 : En) (e : En) : List Nat → En
  | [] => e
  | i :: is => (backE e0 e is).set i ((e0[i]?).getD .un)
def compLoop (tg : Tg) (own : List Nat) (test : En → Res Bool) (elt : En → Res D) : List D → List D → En → Res (List D)
  | [], acc, e => .ok acc e
  | x :: xs, acc, e => match Tg.asg [] tg x (wipeE e own) with
    | none => .no
    | some e1 => match test e1 with
      | .ok true e2 => match elt e2 with
        | .ok d e3 => if acc.length < sizeLine then compLoop tg own test elt xs (acc ++ [d]) e3 else .no
        | _ => .no
      | .ok false e2 => compLoop tg own test elt xs acc e2
      | _ => .no
def slD (lo hi : Option Int) : D → Option Ent
  | .tup xs => some (.fz (.tup (cutD xs lo hi)))
  | .lst xs => some (.ow (.lst (cutD xs lo hi)))
  | .scr xs => some (.ow (.lst (cutD xs lo hi)))
  | .str x => if x.length ≤ sizeLine then some (.fz (.str (cutS x lo hi))) else none
  | _ => none
def onSl (lo hi : Option Int) (r : Ent) (e : En) : Res Ent :=
  match r.d with
  | some d => retE (slD lo hi d) e
  | none => .no
def intE (r : Ent) (e : En) : Res (Option Int) :=
  match r with
  | .fz (.int i) => .ok (some i) e
  | _ => .no
/-- one's own list in a slot -/
def ownL (e : En) (i : Nat) : Option (List D) :=
  match e[i]? with
  | some (.ow (.lst ds)) => some ds
  | _ => none
def popLast (i : Nat) (ds : List D) (e : En) : Res Ent :=
  match ds[ds.length - 1]? with
  | some d => .ok (.fz d) (e.set i (.ow (.lst ds.dropLast)))
  | none => .no
def popAt (i : Nat) (r : Ent) (e : En) : Res Ent :=
  match r, ownL e i with
  | .fz (.int k), some ds => if k.natAbs < 9223372036854775808 then match seqIndex? k ds.length with
    | some j => match ds[j]? with
      | some d => .ok (.fz d) (e.set i (.ow (.lst (ds.eraseIdx j))))
      | none => .no
    | none => .no else .no
  | _, _ => .no
def appL (i : Nat) (d : D) (e : En) : Option En :=
  match ownL e i with
  | some ds => if ds.length < sizeLine then some (e.set i (.ow (.lst (ds ++ [d])))) else none
  | none => none
def extL (i : Nat) (d : D) (e : En) : Option En :=
  match ownL e i, d with
  | some ds, .lst ys => if ds.length + ys.length ≤ sizeLine then some (e.set i (.ow (.lst (ds ++ ys)))) else none
  | _, _ => none
def stiL (i : Nat) (d : D) (r : Ent) (e : En) : Option En :=
  match ownL e i, r with
  | some ds, .fz (.int k) => match ixN ds.length k with
    | some j => some (e.set i (.ow (.lst (ds.set j d))))
    | none => none
  | _, _ => none
mutual
def ev (C : Calls) : E → En → Res Ent
  | .lit d, e => .ok (.fz d) e
  | .con d, e => .ok (.fz d) e
  | .var i, e => match e[i]? with
    | some (.fz d) => .ok (.fz d) e
    | some (.ow d) => .ok (.fz d) (e.set i (.fz d))
    | _ => .no
  | .tup es, e => (evs C es e).bind fun ds e => if ds.length ≤ sizeLine then .ok (.fz (.tup ds)) e else .no
  | .lst es, e => (evs C es e).bind fun ds e => if ds.length ≤ sizeLine then .ok (.ow (.lst ds)) e else .no
  | .pn f es, e => (evOs C es e).bind fun xs e => onD f (allD e xs) e
  | .and a b, e => (ev C a e).bind fun r e => (onB r e).bind fun t e => if t = true then ev C b e else .ok r e
  | .or a b, e => (ev C a e).bind fun r e => (onB r e).bind fun t e => if t = true then .ok r e else ev C b e
  | .not a, e => (opnd (ev C a) a e).bind fun x e => (onB (x.ent e) e).bind fun b e => .ok (.fz (.bl (!b))) e
  | .ite c a b, e => (evT C c e).bind fun t e => if t = true then ev C a e else ev C b e
  | .chain f g a b c, e => (opnd (ev C a) a e).bind fun x e => (opnd (ev C b) b e).bind fun y e => (onD f (allD e [x, y]) e).bind fun r e => (boolE r e).bind fun t e =>
      if t = true then (opnd (ev C c) c e).bind fun z e => onD g (allD e [y, z]) e else .ok (.fz (.bl false)) e
  | .call f ms es, e => (evAs C es ms e).bind fun xs e => callWith C f xs e
  | .comp own tg ik ies cs elt, e => (evs C ies e).bind fun ds e => match ik ds with
    | none => .no
    | some xs => (compLoop tg own (evTs C cs) (frozen (ev C elt)) xs [] e).bind fun ds e' => .ok (.ow (.lst ds)) (backE e e' own)
  | .popL i, e => match ownL e i with
    | some ds => popLast i ds e
    | none => .no
  | .popA i ix, e => match ownL e i with
    | some _ => (ev C ix e).bind fun r e => popAt i r e
    | none => .no
  | .sl a lo hi, e => (opnd (ev C a) a e).bind fun x e => (evP C lo e).bind fun l e => (evP C hi e).bind fun h e => onSl l h (x.ent e) e
/-- a slice's part -/
def evP (C : Calls) : List E → En → Res (Option Int)
  | [], e => .ok none e
  | a :: _, e => (ev C a e).bind intE
/-- items, frozen as they come -/
def evs (C : Calls) : List E → En → Res (List D)
  | [], e => .ok [] e
  | a :: as, e => (frozen (ev C a) e).bind fun d e => (evs C as e).bind fun ds e => .ok (d :: ds) e
/-- operands -/
def evOs (C : Calls) : List E → En → Res (List Opd)
  | [], e => .ok [] e
  | a :: as, e => (opnd (ev C a) a e).bind fun x e => (evOs C as e).bind fun xs e => .ok (x :: xs) e
/-- arguments: an object of one's own is handed on where the mark is true -/
def evAs (C : Calls) : List E → List Bool → En → Res (List Opd)
  | [], _, e => .ok [] e
  | a :: as, ms, e => (match ms.headD false with
      | true => opnd (ev C a) a e
      | false => (frozen (ev C a) e).bind fun d e => .ok (.vl (.fz d)) e).bind fun x e => (evAs C as ms.tail e).bind fun xs e => .ok (x :: xs) e
def evT (C : Calls) : T → En → Res Bool
  | .e a, e => (opnd (ev C a) a e).bind fun x e => onB (x.ent e) e
  | .and a b, e => (evT C a e).bind fun c e => if c = true then evT C b e else .ok false e
  | .or a b, e => (evT C a e).bind fun c e => if c = true then .ok true e else evT C b e
  | .not a, e => (evT C a e).bind fun c e => .ok (!c) e
def evTs (C : Calls) : List T → En → Res Bool
  | [], e => .ok true e
  | a :: as, e => (evT C a e).bind fun c e => if c = true then evTs C as e else .ok false e
end

/-- a part of what an except suite hands out: plain data, or the field of the error -/
inductive HI where
  | lit (d : D) | fld
inductive HA where
  | ret (xs : List HI) | retD (d : D) | set (j : Nat) (xs : List HI)
/-- an except clause: its class, the slot of its name, what it does -/
structure Hd where
  cls : Str
  slot : Option Nat
  act : HA
/-- the field of an error that has one -/
def fieldOf (c : Str) : Str := if c = "BadText" then "line" else "place"
def hiD (ps : List D) : HI → Option D
  | .lit (.bl b) => match ps with
    | [] => some (.bl b)
    | _ => none
  | .lit (.str x) => some (.str x)
  | .lit _ => none
  | .fld => match ps with
    | [p] => some p
    | _ => none
def hiDs (ps : List D) : List HI → Option (List D)
  | [] => some []
  | x :: xs => match hiD ps x, hiDs ps xs with
    | some d, some ds => some (d :: ds)
    | _, _ => none
inductive S where
  | par3 (i j l : Nat) (a b c : E) | try_ (b : List S) (hs : List Hd)
  | expr (a : E) | set (i : Nat) (a : E) | unp (ts : List Tg) (a : E) | par (i j : Nat) (a b : E)
  | app (i : Nat) (a : E) | ext (i : Nat) (a : E) | sti (i : Nat) (ix a : E)
  | ite (c : T) (p q : List S) | for_ (tg : Tg) (ik : List D → Option (List D)) (ies : List E) (b : List S) | whl (c : T) (b : List S)
  | ret (a : E) | retN | pass | brk | cont
  | rse (c : Str) (es : List E)
inductive SR where
  | nx (e : En) | rt (r : Ent) (e : En) | bk (e : En) | ct (e : En) | ex (c : Str) (ps : List D) (e : En) | no
def SR.opt : Option En → SR
  | some e => .nx e
  | none => .no
def Res.sr {α : Type} (r : Res α) (f : α → En → SR) : SR :=
  match r with
  | .ok a e => f a e
  | .ex c ps e => .ex c ps e
  | .no => .no
/-- a turn's end: on with k -/
def turn (r : SR) (k : En → SR) : SR :=
  match r with
  | .nx e => k e
  | .ct e => k e
  | .bk e => .nx e
  | .rt r e => .rt r e
  | .ex c ps e => .ex c ps e
  | .no => .no
def forLoop (pw : List Nat) (tg : Tg) (b : En → SR) : List D → En → SR
  | [], e => .nx e
  | x :: xs, e => match Tg.asg pw tg x e with
    | none => .no
    | some e1 => turn (b e1) (forLoop pw tg b xs)
def whlLoop (t : En → Res Bool) (b : En → SR) : Nat → En → SR
  | 0, _ => .no
  | n + 1, e => (t e).sr fun c e1 => if c = true then turn (b e1) (whlLoop t b n) else .nx e1
def whlFuel : Nat := 1000000
def unSlot (o : Option Nat) (e : En) : En :=
  match o with
  | some i => e.set i .un
  | none => e
/-- an except suite -/
def suiteD (pw : List Nat) (h : Hd) (ps : List D) (e : En) : SR :=
  match h.act with
  | .retD d => .rt (.fz d) (unSlot h.slot e)
  | .ret xs => match hiDs ps xs with
    | some ds => .rt (.ow (.lst ds)) (unSlot h.slot e)
    | none => .no
  | .set j xs => match hiDs ps xs with
    | some ds => if j ∈ pw ∨ h.slot = some j then .no else .nx ((unSlot h.slot e).set j (.ow (.lst ds)))
    | none => .no
def clauses (pw : List Nat) : List Hd → Str → List D → En → SR
  | [], c, ps, e => .ex c ps e
  | h :: hs, c, ps, e => if h.cls = c then (match h.slot with
      | some i => if i ∈ pw then .no else suiteD pw h ps e
      | none => suiteD pw h ps e) else clauses pw hs c ps e
def catchS (pw : List Nat) (hs : List Hd) (r : SR) : SR :=
  match r with
  | .ex c ps e => clauses pw hs c ps e
  | r => r
mutual
def exec (C : Calls) (pw : List Nat) : S → En → SR
  | .par3 i j l a b c, e => (ev C a e).sr fun r e => (ev C b e).sr fun u e => (ev C c e).sr fun v e => if i ∈ pw ∨ j ∈ pw ∨ l ∈ pw then .no else .nx (((e.set i r).set j u).set l v)
  | .try_ b hs, e => catchS pw hs (execs C pw b e)
  | .expr a, e => (ev C a e).sr fun _ e => .nx e
  | .set i a, e => (ev C a e).sr fun r e => if i ∈ pw then .no else .nx (e.set i r)
  | .unp ts a, e => (frozen (ev C a) e).sr fun d e => match Tg.asg pw (.tp ts) d e with
    | some e => .nx e
    | none => .no
  | .par i j a b, e => (ev C a e).sr fun r e => (ev C b e).sr fun u e => if i ∈ pw ∨ j ∈ pw then .no else .nx ((e.set i r).set j u)
  | .app i a, e => match ownL e i with
    | some _ => (frozen (ev C a) e).sr fun d e => SR.opt (appL i d e)
    | none => .no
  | .ext i a, e => match ownL e i with
    | some _ => (frozen (ev C a) e).sr fun d e => SR.opt (extL i d e)
    | none => .no
  | .sti i ix a, e => (frozen (ev C a) e).sr fun d e => match ownL e i with
    | some _ => (ev C ix e).sr fun r e => SR.opt (stiL i d r e)
    | none => .no
  | .ite c p q, e => (evT C c e).sr fun t e => if t = true then execs C pw p e else execs C pw q e
  | .for_ tg ik ies b, e => (evs C ies e).sr fun ds e => match ik ds with
    | none => .no
    | some xs => forLoop pw tg (execs C pw b) xs e
  | .whl c b, e => whlLoop (evT C c) (execs C pw b) whlFuel e
  | .ret a, e => match isVar a with
    | some i => match e[i]? with
      | some (.fz d) => .rt (.fz d) e
      | some (.ow d) => .rt (.ow d) (e.set i .un)
      | _ => .no
    | none => (ev C a e).sr fun r e => .rt r e
  | .retN, e => .rt (.fz .non) e
  | .pass, e => .nx e
  | .brk, e => .bk e
  | .cont, e => .ct e
  | .rse c es, e => (evs C es e).sr fun ds e => .ex c ds e
def execs (C : Calls) (pw : List Nat) : List S → En → SR
  | [], e => .nx e
  | s :: ss, e => match exec C pw s e with
    | .nx e1 => execs C pw ss e1
    | r => r
end

structure FD where
  np : Nat
  nl : Nat
  pw : List Nat
  body : List S
def outsOf (fd : FD) (e : En) : En := (List.range fd.np).map fun i => if i ∈ fd.pw then (e[i]?).getD .un else .un
def finish (fd : FD) : SR → CRes
  | .nx e => .ok (.fz .non) (outsOf fd e)
  | .rt r e => .ok r (outsOf fd e)
  | .ex c ps e => .ex c ps (outsOf fd e)
  | _ => .no
def run (tbl : List FD) : Nat → Calls
  | 0, _, _ => .no
  | k + 1, f, args => match tbl[f]? with
    | none => .no
    | some fd => if args.length = fd.np then finish fd (execs (run tbl k) fd.pw fd.body (args ++ List.replicate (fd.nl - fd.np) .un)) else .no
end PI

end

section
set_option maxRecDepth 100000
set_option maxHeartbeats 1000000
/-! Pi3: the relation's moves. -/
namespace PI
open PySem PySem.Spec PyProof.Rows L2

section
variable {K : PySem.W.Frag} {F H : Hp} {env : En} {σ : L2.St}
theorem getElem?_set_cases {α : Type} {l : List α} {i j : Nat} {x y : α} (h : (l.set i x)[j]? = some y) : (j = i ∧ y = x ∧ i < l.length) ∨ (j ≠ i ∧ l[j]? = some y) := by
  by_cases e : j = i
  · subst e
    have hl : j < l.length := by have := (List.getElem?_eq_some_iff.mp h).1; simpa using this
    rw [List.getElem?_set_self hl] at h
    exact .inl ⟨rfl, (Option.some.inj h).symm, hl⟩
  · rw [List.getElem?_set_ne (Ne.symm e)] at h
    exact .inr ⟨e, h⟩
/-- entries forgotten -/
theorem St.forget (S : St K F env σ H) (i : Nat) : St K F (env.set i .un) σ H := by
  refine ⟨by simp [S.len], S.le, fun j r e hr => ?_, fun j k d e a h1 h2 h3 h4 => ?_⟩
  · rcases getElem?_set_cases e with ⟨_, h, _⟩ | ⟨_, h⟩
    · exact (hr h).elim
    · exact S.ent j r h hr
  · rcases getElem?_set_cases h1 with ⟨_, h, _⟩ | ⟨_, h1⟩
    · cases h
    · rcases getElem?_set_cases h2 with ⟨_, h, _⟩ | ⟨_, h2⟩
      · cases h
      · exact S.sep j k d e a h1 h2 h3 h4
theorem owned_forget {i : Nat} {a : Addr} (h : Owned (env.set i .un) σ a) : Owned env σ a := by
  obtain ⟨j, d, h1, h2⟩ := h
  rcases getElem?_set_cases h1 with ⟨_, h, _⟩ | ⟨_, h1⟩
  · cases h
  · exact ⟨j, d, h1, h2⟩
theorem Ext.forget (i : Nat) : Ext F env σ H F (env.set i .un) σ H :=
  ⟨FLe.refl, fun _ _ h _ => h, fun _ q => .inl (owned_forget q), fun _ _ h h' => by rw [h] at h'; cases h'⟩
/-- the last part dropped -/
theorem Ext.left {pe : En} {ps : L2.St} (hl : env.length = σ.length) : Ext F (env ++ pe) (σ ++ ps) H F env σ H :=
  ⟨FLe.refl, fun _ _ h _ => h, fun _ q => .inl ((owned_app hl).mpr (.inl q)), fun _ _ h h' => by rw [h] at h'; cases h'⟩
theorem Ext.dropR {F' H' : Hp} {env' pe : En} {σ' ps : L2.St} (hl : env'.length = σ'.length) (x : Ext F env σ H F' (env' ++ pe) (σ' ++ ps) H') : Ext F env σ H F' env' σ' H' := x.trans (Ext.left hl)

/-- one's own object is given away: nobody writes it any more -/
theorem St.freeze (S : St K F env σ H) {i : Nat} {d : D} (e : env[i]? = some (.ow d)) : ∃ F', St K F' (env.set i (.fz d)) σ H ∧ Ext F env σ H F' (env.set i (.fz d)) σ H := by
  obtain ⟨v, h1, a, rfl, h3, h4⟩ := S.ent i _ e (by simp)
  obtain ⟨o, ho⟩ := h4.some
  have hF : FLe F (upd F a o) := fun b u hb => by rw [upd_ne (ne_of_none hb h3)]; exact hb
  have hH : FLe (upd F a o) H := fun b u hb => by
    by_cases eb : b = a
    · subst eb; rw [upd_same] at hb; cases hb; exact ho
    · rw [upd_ne eb] at hb; exact S.le b u hb
  have rep : Rep K (upd F a o) d (.ref a) := by
    cases d with
    | lst ds =>
      obtain ⟨vs, q1, q2⟩ := h4
      rw [ho] at q1; cases q1
      exact ⟨a, vs, rfl, upd_same, RepAll.mono hF _ _ q2⟩
    | _ => exact h4.elim
  refine ⟨upd F a o, ⟨by simp [S.len], hH, fun j r e' hr => ?_, fun j k d1 d2 b q1 q2 q3 q4 => ?_⟩, ⟨hF, fun _ _ h _ => h, fun b q => ?_, fun b u q1 q2 => ?_⟩⟩
  · rcases getElem?_set_cases e' with ⟨rfl, rfl, _⟩ | ⟨ne, e'⟩
    · exact ⟨_, h1, rep⟩
    · obtain ⟨v', q1, q2⟩ := S.ent j r e' hr
      refine ⟨v', q1, ?_⟩
      cases r with
      | un => trivial
      | fz d' => exact Rep.mono hF _ _ q2
      | ow d' =>
        obtain ⟨b, rfl, q3, q4⟩ := q2
        have nb : b ≠ a := by
          rintro rfl
          exact ne (S.sep j i d' d b e' e q1 h1)
        exact ⟨b, rfl, by rw [upd_ne nb]; exact q3, q4.mono hF rfl⟩
  · rcases getElem?_set_cases q1 with ⟨_, z, _⟩ | ⟨_, q1⟩
    · cases z
    · rcases getElem?_set_cases q2 with ⟨_, z, _⟩ | ⟨_, q2⟩
      · cases z
      · exact S.sep j k d1 d2 b q1 q2 q3 q4
  · obtain ⟨j, d', q1, q2⟩ := q
    rcases getElem?_set_cases q1 with ⟨_, z, _⟩ | ⟨_, q1⟩
    · cases z
    · exact .inl ⟨j, d', q1, q2⟩
  · by_cases eb : b = a
    · subst eb; exact .inl ⟨i, d, e, h1⟩
    · rw [upd_ne eb, q2] at q1; cases q1
/-- one's own list is written -/
theorem St.write (S : St K F env σ H) {i : Nat} {ds ds' : List D} {a : Addr} {vs' : List V} (e : env[i]? = some (.ow (.lst ds))) (h1 : σ[i]? = some (some (.ref a))) (r : RepAll K F ds' vs') :
    St K F (env.set i (.ow (.lst ds'))) σ (upd H a (.lst vs')) ∧ Ext F env σ H F (env.set i (.ow (.lst ds'))) σ (upd H a (.lst vs')) := by
  obtain ⟨v, h1', a', hv, h3, h4⟩ := S.ent i _ e (by simp)
  rw [h1] at h1'; cases h1'; cases hv
  refine ⟨⟨by simp [S.len], fun b u hb => by rw [upd_ne (ne_of_none hb h3)]; exact S.le b u hb, fun j r' e' hr => ?_, fun j k d1 d2 b q1 q2 q3 q4 => ?_⟩, ⟨FLe.refl, fun b o hb n => ?_, fun b q => ?_, fun _ _ h h' => by rw [h] at h'; cases h'⟩⟩
  · rcases getElem?_set_cases e' with ⟨rfl, rfl, _⟩ | ⟨ne, e'⟩
    · exact ⟨_, h1, a, rfl, h3, vs', upd_same, r⟩
    · obtain ⟨v', q1, q2⟩ := S.ent j r' e' hr
      refine ⟨v', q1, ?_⟩
      cases r' with
      | un => trivial
      | fz d' => exact q2
      | ow d' =>
        obtain ⟨b, rfl, q3, q4⟩ := q2
        have nb : b ≠ a := by
          rintro rfl
          exact ne (S.sep j i d' _ b e' e q1 h1)
        exact ⟨b, rfl, q3, q4.mono FLe.refl (upd_ne nb)⟩
  · have hi : i < env.length := (List.getElem?_eq_some_iff.mp e).1
    have own : ∀ (j : Nat) (d : D), (env.set i (.ow (.lst ds')))[j]? = some (.ow d) → ∃ d', env[j]? = some (.ow d') := fun j d q => by
      rcases getElem?_set_cases q with ⟨rfl, z, _⟩ | ⟨_, q⟩
      · exact ⟨_, e⟩
      · exact ⟨_, q⟩
    obtain ⟨d1', q1⟩ := own j d1 q1
    obtain ⟨d2', q2⟩ := own k d2 q2
    exact S.sep j k d1' d2' b q1 q2 q3 q4
  · have nb : b ≠ a := by
      rintro rfl
      exact n ⟨i, _, e, h1⟩
    rw [upd_ne nb]; exact hb
  · obtain ⟨j, d', q1, q2⟩ := q
    rcases getElem?_set_cases q1 with ⟨rfl, z, _⟩ | ⟨_, q1⟩
    · exact .inl ⟨j, _, e, q2⟩
    · exact .inl ⟨j, d', q1, q2⟩
/-- a result is stored -/
theorem St.store {r : Ent} {v : V} (hl : env.length = σ.length) (S : St K F (env ++ [r]) (σ ++ [some v]) H) (i : Nat) : St K F (env.set i r) (σ.set i (some v)) H ∧ Ext F (env ++ [r]) (σ ++ [some v]) H F (env.set i r) (σ.set i (some v)) H := by
  have at_ : ∀ (j : Nat) (q : Ent), (env.set i r)[j]? = some q → ∃ j', (env ++ [r])[j']? = some q ∧ (σ ++ [some v])[j']? = (σ.set i (some v))[j]? ∧ ((j = i ∧ j' = env.length) ∨ (j ≠ i ∧ j' = j)) := fun j q e => by
    rcases getElem?_set_cases e with ⟨rfl, rfl, h⟩ | ⟨ne, e⟩
    · refine ⟨env.length, by simp, ?_, .inl ⟨rfl, rfl⟩⟩
      rw [List.getElem?_set_self (by omega), hl]; simp
    · have hj : j < env.length := (List.getElem?_eq_some_iff.mp e).1
      refine ⟨j, by rw [List.getElem?_append_left hj]; exact e, ?_, .inr ⟨ne, rfl⟩⟩
      rw [List.getElem?_append_left (by omega), List.getElem?_set_ne (Ne.symm ne)]
  refine ⟨⟨by simp [hl], S.le, fun j q e hq => ?_, fun j k d1 d2 b q1 q2 q3 q4 => ?_⟩, ⟨FLe.refl, fun _ _ h _ => h, fun b q => ?_, fun _ _ h h' => by rw [h] at h'; cases h'⟩⟩
  · obtain ⟨j', h1, h2, _⟩ := at_ j q e
    obtain ⟨v', h3, h4⟩ := S.ent j' q h1 hq
    exact ⟨v', h2.symm.trans h3, h4⟩
  · obtain ⟨j', h1, h2, c1⟩ := at_ j _ q1
    obtain ⟨k', h3, h4, c2⟩ := at_ k _ q2
    have hj : j < env.length := by have := (List.getElem?_eq_some_iff.mp q1).1; simpa using this
    have hk : k < env.length := by have := (List.getElem?_eq_some_iff.mp q2).1; simpa using this
    have := S.sep j' k' d1 d2 b h1 h3 (h2.trans q3) (h4.trans q4)
    omega
  · obtain ⟨j, d, q1, q2⟩ := q
    obtain ⟨j', h1, h2, _⟩ := at_ j _ q1
    exact .inl ⟨j', d, h1, h2.trans q2⟩
theorem Res.bind_ok {α β : Type} {r : Res α} {f : α → En → Res β} {b : β} {e : En} (h : r.bind f = .ok b e) : ∃ a e1, r = .ok a e1 ∧ f a e1 = .ok b e := by
  cases r with
  | ok a e1 => exact ⟨a, e1, rfl, h⟩
  | ex => cases h
  | no => cases h
end

/-! ### readings -/
/-- what an exception bears -/
def ExOk (K : PySem.W.Frag) (XC : Str → Value → Prop) (F H : Hp) (c : Str) (ps : List D) (cls : Value) (dx : Option Addr) : Prop :=
  XC c cls ∧ ((ps = [] ∧ dx = none) ∨ ∃ p d v, ps = [p] ∧ dx = some d ∧ H d = some (.xd [(fieldOf c, v)]) ∧ Rep K F p v)
end PI

end

section
set_option maxRecDepth 100000
set_option maxHeartbeats 1000000
/-! Pi4: readings of expressions. -/
namespace PI
open PySem PySem.Spec PyProof.Rows L2

section
variable {K : PySem.W.Frag} {F H : Hp} {env env' : En} {σ σ' : L2.St}
/-- entries in another order -/
theorem St.re (S : St K F env σ H) (φ : Nat → Nat) (hl : env'.length = σ'.length) (inj : ∀ i j, i < env'.length → j < env'.length → φ i = φ j → i = j)
    (he : ∀ i, i < env'.length → env[φ i]? = env'[i]? ∧ σ[φ i]? = σ'[i]?) : St K F env' σ' H ∧ Ext F env σ H F env' σ' H := by
  have lt : ∀ {i : Nat} {r : Ent}, env'[i]? = some r → i < env'.length := fun h => (List.getElem?_eq_some_iff.mp h).1
  refine ⟨⟨hl, S.le, fun i r e hr => ?_, fun i j d1 d2 a h1 h2 h3 h4 => ?_⟩, ⟨FLe.refl, fun _ _ h _ => h, fun a q => ?_, fun _ _ h h' => by rw [h] at h'; cases h'⟩⟩
  · obtain ⟨v, h1, h2⟩ := S.ent (φ i) r ((he i (lt e)).1.trans e) hr
    exact ⟨v, (he i (lt e)).2.symm.trans h1, h2⟩
  · exact inj i j (lt h1) (lt h2) (S.sep _ _ d1 d2 a ((he i (lt h1)).1.trans h1) ((he j (lt h2)).1.trans h2) ((he i (lt h1)).2.trans h3) ((he j (lt h2)).2.trans h4))
  · obtain ⟨i, d, h1, h2⟩ := q
    exact .inl ⟨φ i, d, (he i (lt h1)).1.trans h1, (he i (lt h1)).2.trans h2⟩
theorem app3 {α : Type} {l a b : List α} {i : Nat} (h1 : ¬ i < l.length) (h2 : i < l.length + b.length) : (l ++ (a ++ b))[i + a.length]? = (l ++ (b ++ a))[i]? := by
  rw [List.getElem?_append_right (by omega), List.getElem?_append_right (by omega), List.getElem?_append_right (by omega), List.getElem?_append_left (by omega)]
  congr 1
  omega
theorem app4 {α : Type} {l a b : List α} {i : Nat} (h2 : ¬ i < l.length + b.length) (h3 : i < l.length + b.length + a.length) : (l ++ (a ++ b))[i - b.length]? = (l ++ (b ++ a))[i]? := by
  rw [List.getElem?_append_right (l₁ := l) (by omega), List.getElem?_append_left (l₁ := a) (by omega), List.getElem?_append_right (l₁ := l) (by omega), List.getElem?_append_right (l₁ := b) (by omega)]
  congr 1
  omega
theorem St.swap {a b : En} {x y : L2.St} (hl : env.length = σ.length) (ha : a.length = x.length) (S : St K F (env ++ (a ++ b)) (σ ++ (x ++ y)) H) :
    St K F (env ++ (b ++ a)) (σ ++ (y ++ x)) H ∧ Ext F (env ++ (a ++ b)) (σ ++ (x ++ y)) H F (env ++ (b ++ a)) (σ ++ (y ++ x)) H := by
  have hb : b.length = y.length := by have := S.len; simp only [List.length_append] at this; omega
  refine S.re (fun i => if i < env.length then i else if i < env.length + b.length then i + a.length else i - b.length) (by simp only [List.length_append]; omega) (fun i j hi hj e => ?_) (fun i hi => ?_)
  · simp only [List.length_append] at hi hj
    split at e <;> split at e <;> (try split at e) <;> (try split at e) <;> omega
  · simp only [List.length_append] at hi
    split
    · rename_i h
      rw [List.getElem?_append_left h, List.getElem?_append_left h, List.getElem?_append_left (by omega), List.getElem?_append_left (by omega)]
      exact ⟨rfl, rfl⟩
    · rename_i h
      split
      · rename_i h2
        exact ⟨app3 h h2, by rw [ha]; exact app3 (by omega) (by omega)⟩
      · rename_i h2
        exact ⟨app4 h2 (by omega), by rw [hb]; exact app4 (by omega) (by omega)⟩
end

/-- what an evaluation leaves: the frame's entries, the results beside them -/
structure Post (K : PySem.W.Frag) (F : Hp) (env : En) (σ : L2.St) (H : Hp) (F' : Hp) (env' pe : En) (vs : List V) (H' : Hp) : Prop where
  st : St K F' (env' ++ pe) (σ ++ vs.map some) H'
  ext : Ext F env σ H F' (env' ++ pe) (σ ++ vs.map some) H'
  pl : pe.length = vs.length
section
variable {K : PySem.W.Frag} {F F1 F2 H H1 H2 : Hp} {env env1 env2 pe pe1 pe2 : En} {σ : L2.St} {vs vs1 vs2 : List V}
theorem Post.len (p : Post K F env σ H F1 env1 pe vs H1) : env1.length = σ.length := by
  have := p.st.len
  have := p.pl
  simp only [List.length_append, List.length_map] at *
  omega
theorem Post.base (p : Post K F env σ H F1 env1 pe vs H1) : St K F1 env1 σ H1 := p.st.left p.len
theorem Post.bext (p : Post K F env σ H F1 env1 pe vs H1) : Ext F env σ H F1 env1 σ H1 := p.ext.trans (Ext.left p.len)
theorem Post.nil (S : St K F env σ H) : Post K F env σ H F env [] [] H := ⟨by simpa using S, by simpa using Ext.refl, rfl⟩
theorem Post.of (S : St K F1 env1 σ H1) (x : Ext F env σ H F1 env1 σ H1) : Post K F env σ H F1 env1 [] [] H1 := ⟨by simpa using S, by simpa using x, rfl⟩
/-- one evaluation behind another -/
theorem Post.seq (p : Post K F env σ H F1 env1 pe1 vs1 H1) (q : Post K F1 env1 σ H1 F2 env2 pe2 vs2 H2) : Post K F env σ H F2 env2 (pe1 ++ pe2) (vs1 ++ vs2) H2 := by
  have fr : St K F2 ((env2 ++ pe2) ++ pe1) ((σ ++ vs2.map some) ++ vs1.map some) H2 := St.frame p.st p.len q.st q.ext
  have fx : Ext F1 (env1 ++ pe1) (σ ++ vs1.map some) H1 F2 ((env2 ++ pe2) ++ pe1) ((σ ++ vs2.map some) ++ vs1.map some) H2 := Ext.frame p.len (by have := q.pl; have := q.len; simp only [List.length_append, List.length_map]; omega) q.ext
  rw [List.append_assoc, List.append_assoc] at fr fx
  obtain ⟨s, x⟩ := fr.swap q.len (by simpa using q.pl)
  refine ⟨by rw [List.map_append]; exact s, (p.ext.trans fx).trans (by rw [List.map_append (l₁ := vs1)]; exact x), by have := p.pl; have := q.pl; simp only [List.length_append]; omega⟩
/-- the first results dropped -/
theorem Post.drop (p : Post K F env σ H F1 env1 pe1 vs1 H1) (q : Post K F1 env1 σ H1 F2 env2 pe2 vs2 H2) : Post K F env σ H F2 env2 pe2 vs2 H2 := ⟨q.st, p.bext.trans q.ext, q.pl⟩
/-- from here on -/
theorem Post.then (S : St K F1 env1 σ H1) (x : Ext F env σ H F1 env1 σ H1) (q : Post K F1 env1 σ H1 F2 env2 pe2 vs2 H2) : Post K F env σ H F2 env2 pe2 vs2 H2 := ⟨q.st, x.trans q.ext, q.pl⟩
theorem Post.new {r : Ent} {v : V} (S : St K F env σ H) (n : New K F H F1 H1 r v) : Post K F env σ H F1 env [r] [v] H1 := ⟨(S.new n).1, (S.new n).2, rfl⟩
end

/-- readable: frozen, or one's own -/
def Rdb (K : PySem.W.Frag) (F H : Hp) (d : D) (v : V) : Prop := Rep K F d v ∨ ∃ a, v = .ref a ∧ F a = none ∧ OwnAt K F H a d
def RdAll (K : PySem.W.Frag) (F H : Hp) : List D → List V → Prop
  | [], vs => vs = []
  | d :: ds, vs => ∃ v r, vs = v :: r ∧ Rdb K F H d v ∧ RdAll K F H ds r
theorem EntOk.rdb {K : PySem.W.Frag} {F H : Hp} {r : Ent} {v : V} {d : D} (h : EntOk K F H r v) (e : r.d = some d) : Rdb K F H d v := by
  cases r with
  | un => cases e
  | fz _ => cases e; exact .inl h
  | ow _ => cases e; exact .inr h
theorem Rdb.read {K : PySem.W.Frag} {F H : Hp} {v : V} {d : D} (l : FLe F H) (h : Rdb K F H d v) : Rep K H d v := by
  rcases h with h | ⟨a, rfl, _, h⟩
  · exact Rep.mono l _ _ h
  · exact h.read l
theorem RdAll.read {K : PySem.W.Frag} {F H : Hp} (l : FLe F H) : ∀ {ds : List D} {vs : List V}, RdAll K F H ds vs → RepAll K H ds vs
  | [], _, h => h
  | _ :: _, _, ⟨v, r, e, h1, h2⟩ => ⟨v, r, e, h1.read l, RdAll.read l h2⟩
/-- an operand's value -/
def OpdAt (σ : L2.St) (x : Opd) (v : V) : Prop :=
  match x with
  | .sl i => σ[i]? = some (some v)
  | .vl r => r ≠ .un
def OpdsAt (σ : L2.St) : List Opd → List V → Prop
  | [], vs => vs = []
  | x :: xs, vs => ∃ v r, vs = v :: r ∧ OpdAt σ x v ∧ OpdsAt σ xs r
theorem OpdsAt.length {σ : L2.St} : ∀ {xs : List Opd} {vs : List V}, OpdsAt σ xs vs → vs.length = xs.length
  | [], _, h => by cases (show _ = [] from h); rfl
  | _ :: _, _, ⟨v, r, e, _, h⟩ => by subst e; simp [OpdsAt.length h]
section
variable {K : PySem.W.Frag} {F H : Hp} {env : En} {σ : L2.St}
theorem St.opd {x : Opd} {v : V} {ps : List V} {pre : En} (S : St K F (env ++ (pre ++ [x.pe])) (σ ++ ps.map some) H) (hl : env.length = σ.length) (hp : pre.length + 1 = ps.length) (hv : ps[pre.length]? = some v) (o : OpdAt σ x v) {d : D} (e : (x.ent env).d = some d) : Rdb K F H d v := by
  cases x with
  | sl i =>
    replace e : ((env[i]?).getD .un).d = some d := e
    cases q : env[i]? with
    | none => rw [q] at e; cases e
    | some r =>
      rw [q] at e
      have hr : r ≠ .un := by rintro rfl; cases e
      obtain ⟨v', h1, h2⟩ := (S.left hl).ent i r q hr
      have : σ[i]? = some (some v) := o
      rw [this] at h1; cases h1
      exact h2.rdb e
  | vl r =>
    have hr : r ≠ .un := o
    obtain ⟨v', h1, h2⟩ := S.ent (env.length + pre.length) r (by simp [Opd.pe]) hr
    rw [List.getElem?_append_right (by omega), hl, Nat.add_sub_cancel_left, List.getElem?_map, hv] at h1
    cases h1
    exact h2.rdb e
theorem St.opds : ∀ {xs : List Opd} {vs : List V} {pre : En} {ps : List V} {ds : List D}, St K F (env ++ (pre ++ xs.map Opd.pe)) (σ ++ (ps ++ vs).map some) H → env.length = σ.length → pre.length = ps.length → OpdsAt σ xs vs → allD env xs = some ds → RdAll K F H ds vs
  | [], vs, pre, ps, ds, S, hl, hp, o, e => by cases (show vs = [] from o); cases e; rfl
  | x :: xs, vs, pre, ps, ds, S, hl, hp, o, e => by
    obtain ⟨v, r, rfl, o1, o2⟩ := o
    unfold allD at e
    cases e1 : (x.ent env).d with
    | none => rw [e1] at e; simp at e
    | some d =>
      cases e2 : allD env xs with
      | none => rw [e1, e2] at e; simp at e
      | some ds' =>
        rw [e1, e2] at e
        cases e
        have S1 : St K F (env ++ (pre ++ [x.pe])) (σ ++ (ps ++ [v]).map some) H := by
          have : St K F ((env ++ (pre ++ [x.pe])) ++ xs.map Opd.pe) ((σ ++ (ps ++ [v]).map some) ++ r.map some) H := by
            simpa [List.append_assoc] using S
          exact this.left (by simp only [List.length_append, List.length_map, List.length_cons, List.length_nil]; omega)
        refine ⟨v, r, rfl, S1.opd hl (by simp [hp]) (by simp [hp]) o1 e1, ?_⟩
        refine St.opds (pre := pre ++ [x.pe]) (ps := ps ++ [v]) ?_ hl (by simp [hp]) o2 e2
        simpa [List.append_assoc] using S
end

section
variable (K : PySem.W.Frag) (XC : Str → Value → Prop) (C : Calls) (W : WX)
/-- what is asked of an exception -/
def exP (F : Hp) (env : En) (σ : L2.St) (H : Hp) (c : Str) (ps : List D) (env' : En) : Prop :=
  ∀ F' H' cls dx, St K F' env' σ H' → Ext F env σ H F' env' σ H' → ExOk K XC F' H' c ps cls dx → W cls dx σ H'
/-- an evaluation's reading -/
def tM {α : Type} (m : En → Res α) (pe : α → En) (ok : α → L2.St → List V → Prop) (σ : L2.St) (H : Hp) (Q : α → List V → Hp → Prop) : Prop :=
  ∃ F env, St K F env σ H ∧ (m env).wish (fun x env' => ∀ F' H' vs, Post K F env σ H F' env' (pe x) vs H' → ok x σ vs → Q x vs H') fun c ps env' => exP K XC W F env σ H c ps env'
def okR (r : Ent) (_ : L2.St) (vs : List V) : Prop := r ≠ .un ∧ ∃ v, vs = [v]
def okX (x : Opd) (σ : L2.St) (vs : List V) : Prop := ∃ v, vs = [v] ∧ OpdAt σ x v
def one (Q : VK) {α : Type} : α → List V → Hp → Prop := fun _ vs H => ∀ v, vs = [v] → Q v H
def tE (a : E) : TE := fun σ H Q => tM K XC W (ev C a) (fun r => [r]) okR σ H (one Q)
def tF (a : E) : TE := fun σ H Q => tM K XC W (frozen (ev C a)) (fun d => [.fz d]) (fun _ _ vs => ∃ v, vs = [v]) σ H (one Q)
def tO (a : E) : TE := fun σ H Q => tM K XC W (opnd (ev C a) a) (fun x => [x.pe]) okX σ H (one Q)
def tOs (as : List E) : TA := fun σ H Q => tM K XC W (evOs C as) (fun xs => xs.map Opd.pe) (fun xs σ vs => OpdsAt σ xs vs) σ H (fun _ => Q)
def tFs (as : List E) : TA := fun σ H Q => tM K XC W (evs C as) (fun ds => ds.map .fz) (fun ds _ vs => vs.length = ds.length) σ H (fun _ => Q)
def tAs (as : List E) (ms : List Bool) : TA := fun σ H Q => tM K XC W (evAs C as ms) (fun xs => xs.map Opd.pe) (fun xs σ vs => OpdsAt σ xs vs) σ H (fun _ => Q)
def tT (c : T) : TT := fun σ H Q => tM K XC W (evT C c) (fun _ => []) (fun _ _ _ => True) σ H (fun b _ => Q b)
def tTs (cs : List T) : TT := fun σ H Q => tM K XC W (evTs C cs) (fun _ => []) (fun _ _ _ => True) σ H (fun b _ => Q b)
end
end PI

end

section
set_option maxRecDepth 100000
set_option maxHeartbeats 1000000
/-! Pi5: the rules of expressions. -/
namespace PI
open PySem PySem.Spec PyProof.Rows L2

theorem _root_.L2.PE.imp' {X : Cx} {e : Expr} {t t' : TE} (h : PE X e t) (i : ∀ σ H Q, t' σ H Q → t σ H Q) : PE X e t' := ⟨fun pins s σ H Q I q => h.run pins s σ H Q I (i _ _ _ q)⟩
theorem _root_.L2.PT.imp' {X : Cx} {e : Expr} {t t' : TT} (h : PT X e t) (i : ∀ σ H Q, t' σ H Q → t σ H Q) : PT X e t' := ⟨fun pins s σ H Q I q => h.run pins s σ H Q I (i _ _ _ q)⟩
theorem _root_.L2.PW.imp' {X : Cx} {e : Expr} {t t' : TT} (h : PW X e t) (i : ∀ σ H Q, t' σ H Q → t σ H Q) : PW X e t' := ⟨fun wh pins s σ H Q I q => h.run wh pins s σ H Q I (i _ _ _ q)⟩
theorem _root_.L2.PA.imp' {X : Cx} {e : List Expr} {t t' : TA} (h : PA X e t) (i : ∀ σ H Q, t' σ H Q → t σ H Q) : PA X e t' := ⟨fun ps pins s σ H Q I q => h.run ps pins s σ H Q I (i _ _ _ q)⟩
theorem _root_.L2.PTs.imp' {X : Cx} {e : List Expr} {t t' : TT} (h : PTs X e t) (i : ∀ σ H Q, t' σ H Q → t σ H Q) : PTs X e t' := ⟨fun pins s σ H Q I q => h.run pins s σ H Q I (i _ _ _ q)⟩

section
variable {K : PySem.W.Frag} {F H : Hp} {env : En} {σ : L2.St} {vs : List V} {ds : List D} {p : Addr}
theorem new_scal {d : D} {v : V} (l : FLe F H) (r : Rep K F d v) : New K F H F H (.fz d) v :=
  { le := FLe.refl, le' := l, same := fun _ _ h => h, new := fun _ _ h h' => by rw [h] at h'; cases h'
    ent := r, own := fun _ h => by cases h }
theorem FLe.none {a : Addr} (l : FLe F H) (h : H a = Option.none) : F a = Option.none := by
  cases q : F a with
  | none => rfl
  | some o => rw [l a o q] at h; cases h
theorem FLe.upd {o : HO} (l : FLe F H) (h : H p = Option.none) : FLe F (upd F p o) := fun b u hb => by rw [upd_ne (ne_of_none hb (l.none h))]; exact hb
theorem FLe.upd2 {o : HO} (l : FLe F H) : FLe (L2.upd F p o) (L2.upd H p o) := fun b u hb => by
  by_cases e : b = p
  · subst e; rw [upd_same] at hb ⊢; exact hb
  · rw [upd_ne e] at hb ⊢; exact l b u hb
theorem same_upd' {o : HO} (h : H p = none) : Same H (upd H p o) := fun b x e => by
  rw [upd_ne (ne_of_none e h)]; exact e
theorem new_tup (l : FLe F H) (h : H p = none) (r : RepAll K F ds vs) : New K F H (upd F p (.tup vs)) (upd H p (.tup vs)) (.fz (.tup ds)) (.ref p) :=
  { le := l.upd h, le' := l.upd2, same := same_upd' h
    new := fun b o q n => by
      by_cases e : b = p
      · subst e; exact h
      · rw [upd_ne e, n] at q; cases q
    ent := ⟨p, vs, rfl, SqT.of upd_same, RepAll.mono (l.upd h) _ _ r⟩
    own := fun _ q => by cases q }
theorem new_lst (l : FLe F H) (h : H p = none) (r : RepAll K F ds vs) : New K F H F (upd H p (.lst vs)) (.ow (.lst ds)) (.ref p) :=
  { le := FLe.refl, same := same_upd' h
    le' := fun b o q => by rw [upd_ne (ne_of_none (l b o q) h)]; exact l b o q
    new := fun _ _ q n => by rw [q] at n; cases n
    ent := ⟨p, rfl, l.none h, vs, upd_same, r⟩
    own := fun _ _ => ⟨p, rfl, h⟩ }
/-- frozen results: their values -/
theorem St.frozen (S : St K F (env ++ ds.map .fz) (σ ++ vs.map some) H) (hl : env.length = σ.length) (hv : vs.length = ds.length) : RepAll K F ds vs := by
  have go : ∀ (ds : List D) (vs : List V) (n : Nat), vs.length = ds.length → (∀ (i : Nat) (d : D), ds[i]? = some d → ∃ v : V, vs[i]? = some v ∧ Rep K F d v) → RepAll K F ds vs := by
    intro ds
    induction ds with
    | nil => intro vs n h _; exact List.length_eq_zero_iff.mp h
    | cons d ds ih =>
      intro vs n h g
      cases vs with
      | nil => cases h
      | cons v vs =>
        obtain ⟨v', e, r⟩ := g 0 d rfl
        cases e
        exact ⟨v, vs, rfl, r, ih vs n (by simpa using h) fun i d' e' => by
          obtain ⟨v', e2, r2⟩ := g (i + 1) d' (by simpa using e')
          exact ⟨v', by simpa using e2, r2⟩⟩
  refine go ds vs 0 hv fun i d e => ?_
  have hi : i < ds.length := (List.getElem?_eq_some_iff.mp e).1
  obtain ⟨v, h1, h2⟩ := S.ent (env.length + i) (.fz d) (by rw [List.getElem?_append_right (by omega), Nat.add_sub_cancel_left, List.getElem?_map, e]; rfl) (by simp)
  rw [List.getElem?_append_right (by omega), hl, Nat.add_sub_cancel_left, List.getElem?_map] at h1
  cases q : vs[i]? with
  | none => rw [q] at h1; cases h1
  | some u => rw [q] at h1; cases h1; exact ⟨v, rfl, h2⟩
theorem St.lastEnt {r : Ent} {v : V} (S : St K F (env ++ [r]) (σ ++ [some v]) H) (hl : env.length = σ.length) (hr : r ≠ .un) : EntOk K F H r v := by
  obtain ⟨v', h1, h2⟩ := S.ent env.length r (by simp) hr
  rw [hl] at h1; simp at h1
  subst h1
  exact h2
end

section
variable {X : Cx} {XC : Str → Value → Prop} {C : Calls} {W : WX}

theorem tM_ok {K : PySem.W.Frag} {α : Type} {m : En → Res α} {pe : α → En} {ok : α → L2.St → List V → Prop} {σ : L2.St} {H : Hp} {Q : α → List V → Hp → Prop} {F : Hp} {env : En} (S : St K F env σ H) {x : α} {env' : En}
    (e : m env = .ok x env') (h : ∀ F' H' vs, Post K F env σ H F' env' (pe x) vs H' → ok x σ vs → Q x vs H') : tM K XC W m pe ok σ H Q := ⟨F, env, S, by rw [e]; exact h⟩
theorem tM_ex {K : PySem.W.Frag} {α : Type} {m : En → Res α} {pe : α → En} {ok : α → L2.St → List V → Prop} {σ : L2.St} {H : Hp} {Q : α → List V → Hp → Prop} {F : Hp} {env : En} (S : St K F env σ H) {c : Str} {ps : List D} {env' : En}
    (e : m env = .ex c ps env') (h : exP K XC W F env σ H c ps env') : tM K XC W m pe ok σ H Q := ⟨F, env, S, by rw [e]; exact h⟩
theorem exP.behind {K : PySem.W.Frag} {F F1 : Hp} {env env1 env2 pe : En} {σ : L2.St} {H H1 : Hp} {vs : List V} {c : Str} {ps : List D} (p : Post K F env σ H F1 env1 pe vs H1) (h : exP K XC W F env σ H c ps env2) : exP K XC W F1 env1 σ H1 c ps env2 :=
  fun F' H' cls dx S x e => h F' H' cls dx S (p.bext.trans x) e
/-- m, then f: the reading of m whose wish is that of f -/
theorem tM_bind {K : PySem.W.Frag} {α β : Type} {m : En → Res α} {f : α → En → Res β} {peα : α → En} {okα : α → L2.St → List V → Prop} {peβ : β → En} {okβ : β → L2.St → List V → Prop} {σ : L2.St} {H : Hp} {Q : β → List V → Hp → Prop} {Q1 : α → List V → Hp → Prop}
    (h : tM K XC W (fun e => (m e).bind f) peβ okβ σ H Q)
    (g : ∀ (F : Hp) (env : En) (F1 : Hp) (env1 : En) (x : α) (vs : List V) (H1 : Hp), St K F env σ H → m env = .ok x env1 → Post K F env σ H F1 env1 (peα x) vs H1 → okα x σ vs →
      ((f x env1).wish (fun y env2 => ∀ F2 H2 ws, Post K F env σ H F2 env2 (peβ y) ws H2 → okβ y σ ws → Q y ws H2) fun c ps env2 => exP K XC W F env σ H c ps env2) → Q1 x vs H1) : tM K XC W m peα okα σ H Q1 := by
  obtain ⟨F, env, S, h⟩ := h
  refine ⟨F, env, S, ?_⟩
  cases e : m env with
  | ok x env1 =>
    intro F1 H1 vs P o
    refine g F env F1 env1 x vs H1 S e P o ?_
    dsimp only at h
    rw [e] at h
    exact h
  | ex c ps env1 =>
    dsimp only at h
    rw [e] at h
    exact h
  | no =>
    dsimp only at h
    rw [e] at h
    exact h

/-! ### names and constants -/
theorem t_val {K : PySem.W.Frag} {d : D} {v : V} {m : En → Res Ent} {σ : L2.St} {H : Hp} {Q : VK} (hm : ∀ e, m e = .ok (.fz d) e) (hv : ∀ F, Rep K F d v) (h : tM K XC W m (fun r => [r]) okR σ H (one Q)) : Q v H := by
  obtain ⟨F, env, S, h⟩ := h
  rw [hm] at h
  exact h F H [v] (Post.new S (new_scal S.le (hv F))) ⟨by simp, v, rfl⟩ v rfl
theorem se_int {i j pos} : PE X (.Constant (.int i) j pos) (tE X.K XC C W (.lit (.int i))) := pe_int.imp' fun _ _ _ h => t_val (fun _ => by unfold ev; rfl) (fun _ => by unfold Rep; rfl) h
theorem se_bl {b j pos} : PE X (.Constant (.bool b) j pos) (tE X.K XC C W (.lit (.bl b))) := pe_bl.imp' fun _ _ _ h => t_val (fun _ => by unfold ev; rfl) (fun _ => by unfold Rep; rfl) h
theorem se_non {j pos} : PE X (.Constant .none j pos) (tE X.K XC C W (.lit .non)) := pe_non.imp' fun _ _ _ h => t_val (fun _ => by unfold ev; rfl) (fun _ => by unfold Rep; rfl) h
theorem se_str {x j pos} : PE X (.Constant (.str x) j pos) (tE X.K XC C W (.lit (.str x))) := pe_str.imp' fun _ _ _ h => t_val (fun _ => by unfold ev; rfl) (fun _ => by unfold Rep; rfl) h
theorem se_con {x : Str} {v : V} {u : Value} {pos : Pos} {d : D} (hg : Gl X x) (hm : X.mg x = some u) (r : RelV v u) (hd : ∀ F, Rep X.K F d v) (hdb : (x == ("__debug__" : Str)) = false := by decide) : PE X (.Name x pos) (tE X.K XC C W (.con d)) :=
  (pe_glob hg hm r hdb).imp' fun _ _ _ h => t_val (fun _ => by unfold ev; rfl) hd h
theorem se_var {e : Expr} {i : Nat} (h : PE X e (tVar i)) : PE X e (tE X.K XC C W (.var i)) := h.imp' fun σ H Q h => by
  obtain ⟨F, env, S, h⟩ := h
  rw [show ev C (.var i) env = _ from by unfold ev; rfl] at h
  cases q : env[i]? with
  | none => rw [q] at h; exact h.elim
  | some r =>
    cases r with
    | un => rw [q] at h; exact h.elim
    | fz d =>
      rw [q] at h
      obtain ⟨v, h1, h2⟩ := S.ent i _ q (by simp)
      exact ⟨v, h1, h F H [v] (Post.new S (new_scal S.le h2)) ⟨by simp, v, rfl⟩ v rfl⟩
    | ow d =>
      rw [q] at h
      obtain ⟨F', S', x⟩ := S.freeze q
      have hi : i < env.length := (List.getElem?_eq_some_iff.mp q).1
      obtain ⟨v, h1, h2⟩ := S'.ent i (.fz d) (by rw [List.getElem?_set_self hi]) (by simp)
      exact ⟨v, h1, h F' H [v] (Post.then S' x (Post.new S' (new_scal S'.le h2))) ⟨by simp, v, rfl⟩ v rfl⟩
/-! ### operands -/
theorem se_varO {e : Expr} {i : Nat} (h : PE X e (tVar i)) : PE X e (tO X.K XC C W (.var i)) := h.imp' fun σ H Q h => by
  obtain ⟨F, env, S, h⟩ := h
  rw [show opnd (ev C (.var i)) (.var i) env = _ from by unfold opnd isVar; rfl] at h
  dsimp only at h
  cases q : env[i]? with
  | none => rw [q] at h; exact h.elim
  | some r =>
    cases r with
    | un => rw [q] at h; exact h.elim
    | fz d =>
      rw [q] at h
      obtain ⟨v, h1, h2⟩ := S.ent i _ q (by simp)
      exact ⟨v, h1, h F H [v] (Post.new S (new_scal S.le h2)) ⟨v, rfl, by simp [OpdAt]⟩ v rfl⟩
    | ow d =>
      rw [q] at h
      obtain ⟨v, h1, h2⟩ := S.ent i _ q (by simp)
      refine ⟨v, h1, h F H [v] ⟨?_, ?_, rfl⟩ ⟨v, rfl, h1⟩ v rfl⟩
      · refine ⟨by simp [S.len], S.le, fun j r e hr => ?_, fun j k d1 d2 a q1 q2 q3 q4 => ?_⟩
        · rcases getElem?_app1 e with e | ⟨_, rfl⟩
          · obtain ⟨v', z1, z2⟩ := S.ent j r e hr
            exact ⟨v', by rw [List.getElem?_append_left (List.getElem?_eq_some_iff.mp z1).1]; exact z1, z2⟩
          · exact (hr rfl).elim
        · rcases getElem?_app1 q1 with q1 | ⟨_, z⟩
          · rcases getElem?_app1 q2 with q2 | ⟨_, z⟩
            · have l1 := (List.getElem?_eq_some_iff.mp q1).1
              have l2 := (List.getElem?_eq_some_iff.mp q2).1
              rw [List.getElem?_append_left (by rw [← S.len]; exact l1)] at q3
              rw [List.getElem?_append_left (by rw [← S.len]; exact l2)] at q4
              exact S.sep j k d1 d2 a q1 q2 q3 q4
            · cases z
          · cases z
      · refine ⟨FLe.refl, fun _ _ h _ => h, fun a q => ?_, fun _ _ h h' => by rw [h] at h'; cases h'⟩
        obtain ⟨j, d', q1, q2⟩ := q
        rcases getElem?_app1 q1 with q1 | ⟨_, z⟩
        · have l1 := (List.getElem?_eq_some_iff.mp q1).1
          rw [List.getElem?_append_left (by rw [← S.len]; exact l1)] at q2
          exact .inl ⟨j, d', q1, q2⟩
        · cases z
theorem se_o {e : Expr} {A : E} (h : PE X e (tE X.K XC C W A)) (hA : isVar A = none := by rfl) : PE X e (tO X.K XC C W A) := h.imp' fun σ H Q h => by
  have e1 : (fun e => (ev C A e).bind fun r e => Res.ok (Opd.vl r) e) = opnd (ev C A) A := by
    funext e; unfold opnd; rw [hA]
  refine tM_bind (m := ev C A) (f := fun r e => .ok (.vl r) e) (peβ := fun x => [x.pe]) (okβ := okX) (Q := one Q) (by rw [e1]; exact h) fun F env F1 env1 x vs H1 S em P o g v ev_ => ?_
  obtain ⟨hr, v', rfl⟩ := o
  cases ev_
  exact g F1 H1 [v] P ⟨v, rfl, hr⟩ v rfl
theorem se_f {e : Expr} {A : E} (h : PE X e (tE X.K XC C W A)) : PE X e (tF X.K XC C W A) := h.imp' fun σ H Q h => by
  refine tM_bind (m := ev C A) (f := frz) (peβ := fun d => [.fz d]) (okβ := fun _ _ vs => ∃ v, vs = [v]) (Q := one Q) h fun F env F1 env1 r vs H1 S em P o g v ev_ => ?_
  obtain ⟨hr, v', rfl⟩ := o
  cases ev_
  cases r with
  | un => exact (hr rfl).elim
  | fz d => exact g F1 H1 [v] P ⟨v, rfl⟩ v rfl
  | ow d =>
    obtain ⟨F', S', x⟩ := P.st.freeze (i := env1.length) (d := d) (by simp)
    have es : (env1 ++ [Ent.ow d]).set env1.length (.fz d) = env1 ++ [.fz d] := by simp
    rw [es] at S' x
    exact g F' H1 [v] ⟨S', P.ext.trans x, rfl⟩ ⟨v, rfl⟩ v rfl
end
end PI

end

section
set_option maxRecDepth 100000
set_option maxHeartbeats 1000000
/-! Pi6: lists of operands, displays, prims. -/
namespace PI
open PySem PySem.Spec PyProof.Rows L2
section
variable {X : Cx} {XC : Str → Value → Prop} {C : Calls} {W : WX}

/-- the second reading's start, behind the first -/
theorem tM_next {K : PySem.W.Frag} {β : Type} {m : En → Res β} {peβ : β → En} {okβ : β → L2.St → List V → Prop} {σ : L2.St} {H H1 : Hp} {Q : β → List V → Hp → Prop} {F F1 : Hp} {env env1 pe1 : En} {vs : List V} (P : Post K F env σ H F1 env1 pe1 vs H1)
    (h : (m env1).wish (fun y env2 => ∀ F2 H2 ws, Post K F1 env1 σ H1 F2 env2 (peβ y) ws H2 → okβ y σ ws → Q y ws H2) fun c ps env2 => exP K XC W F env σ H c ps env2) : tM K XC W m peβ okβ σ H1 Q := by
  refine ⟨F1, env1, P.base, ?_⟩
  cases e : m env1 with
  | ok y env2 => rw [e] at h; exact h
  | ex c ps env2 => rw [e] at h; exact h.behind P
  | no => rw [e] at h; exact h

theorem pas_nil : PA X [] (tOs X.K XC C W []) := pa_nil.imp' fun σ H Q h => by
  obtain ⟨F, env, S, h⟩ := h
  rw [show evOs C [] env = .ok [] env from by unfold evOs; rfl] at h
  exact h F H [] (Post.nil S) rfl
theorem pas_cons {e : Expr} {es : List Expr} {A : E} {As : List E} (ha : PE X e (tO X.K XC C W A)) (hr : PA X es (tOs X.K XC C W As)) (hs : starEach (e :: es) X.env = (false, eval e X.env) :: starEach es X.env := by rfl) : PA X (e :: es) (tOs X.K XC C W (A :: As)) :=
  (pa_cons ha hr hs).imp' fun σ H Q h => by
    refine tM_bind (m := opnd (ev C A) A) (f := fun x e => (evOs C As e).bind fun xs e => .ok (x :: xs) e) (peβ := fun xs => xs.map Opd.pe) (okβ := fun xs σ vs => OpdsAt σ xs vs) (Q := fun _ => Q) (by
      have : evOs C (A :: As) = fun e => (opnd (ev C A) A e).bind fun x e => (evOs C As e).bind fun xs e => .ok (x :: xs) e := by funext e; rw [evOs]
      rw [← this]; exact h) fun F env F1 env1 x vs H1 S em P o g v ev_ => ?_
    obtain ⟨v', rfl, o⟩ := o
    cases ev_
    refine tM_next P ?_
    cases e : evOs C As env1 with
    | ok xs env2 =>
      rw [e] at g
      intro F2 H2 ws P2 o2
      exact g F2 H2 (v :: ws) (P.seq P2) ⟨v, ws, rfl, o, o2⟩
    | ex c ps env2 => rw [e] at g; exact g
    | no => rw [e] at g; exact g
theorem pfs_nil : PA X [] (tFs X.K XC C W []) := pa_nil.imp' fun σ H Q h => by
  obtain ⟨F, env, S, h⟩ := h
  rw [show evs C [] env = .ok [] env from by unfold evs; rfl] at h
  exact h F H [] (Post.nil S) rfl
theorem pfs_cons {e : Expr} {es : List Expr} {A : E} {As : List E} (ha : PE X e (tE X.K XC C W A)) (hr : PA X es (tFs X.K XC C W As)) (hs : starEach (e :: es) X.env = (false, eval e X.env) :: starEach es X.env := by rfl) : PA X (e :: es) (tFs X.K XC C W (A :: As)) :=
  (pa_cons (se_f ha) hr hs).imp' fun σ H Q h => by
    change tM X.K XC W (frozen (ev C A)) (fun d => [Ent.fz d]) (fun _ _ vs => ∃ v, vs = [v]) σ H (one _)
    refine tM_bind (m := frozen (ev C A)) (f := fun d e => (evs C As e).bind fun ds e => .ok (d :: ds) e) (peβ := fun ds => ds.map .fz) (okβ := fun ds _ vs => vs.length = ds.length) (Q := fun _ => Q) (by
      have : evs C (A :: As) = fun e => (frozen (ev C A) e).bind fun d e => (evs C As e).bind fun ds e => .ok (d :: ds) e := by funext e; rw [evs]
      rw [← this]; exact h) fun F env F1 env1 x vs H1 S em P o g v ev_ => ?_
    obtain ⟨v', rfl⟩ := o
    cases ev_
    refine tM_next P ?_
    cases e : evs C As env1 with
    | ok xs env2 =>
      rw [e] at g
      intro F2 H2 ws P2 o2
      exact g F2 H2 (v :: ws) (P.seq P2) (by simp [o2])
    | ex c ps env2 => rw [e] at g; exact g
    | no => rw [e] at g; exact g
theorem pra_nil {ms : List Bool} : PA X [] (tAs X.K XC C W [] ms) := pa_nil.imp' fun σ H Q h => by
  obtain ⟨F, env, S, h⟩ := h
  rw [show evAs C [] ms env = .ok [] env from by unfold evAs; rfl] at h
  exact h F H [] (Post.nil S) rfl
/-- an argument by value -/
theorem pra_cons {e : Expr} {es : List Expr} {A : E} {As : List E} {ms : List Bool} (ha : PE X e (tE X.K XC C W A)) (hr : PA X es (tAs X.K XC C W As ms)) (hs : starEach (e :: es) X.env = (false, eval e X.env) :: starEach es X.env := by rfl) : PA X (e :: es) (tAs X.K XC C W (A :: As) (false :: ms)) :=
  (pa_cons (se_f ha) hr hs).imp' fun σ H Q h => by
    change tM X.K XC W (frozen (ev C A)) (fun d => [Ent.fz d]) (fun _ _ vs => ∃ v, vs = [v]) σ H (one _)
    refine tM_bind (m := frozen (ev C A)) (f := fun d e => (evAs C As ms e).bind fun xs e => .ok (.vl (.fz d) :: xs) e) (peβ := fun xs => xs.map Opd.pe) (okβ := fun xs σ vs => OpdsAt σ xs vs) (Q := fun _ => Q) (by
      have : evAs C (A :: As) (false :: ms) = fun e => (frozen (ev C A) e).bind fun d e => (evAs C As ms e).bind fun xs e => .ok (.vl (.fz d) :: xs) e := by
        funext e; rw [evAs]; simp only [List.headD_cons, List.tail_cons]
        cases frozen (ev C A) e <;> rfl
      rw [← this]; exact h) fun F env F1 env1 x vs H1 S em P o g v ev_ => ?_
    obtain ⟨v', rfl⟩ := o
    cases ev_
    refine tM_next P ?_
    cases e : evAs C As ms env1 with
    | ok xs env2 =>
      rw [e] at g
      intro F2 H2 ws P2 o2
      exact g F2 H2 (v :: ws) (P.seq P2) ⟨v, ws, rfl, by simp [OpdAt], o2⟩
    | ex c ps env2 => rw [e] at g; exact g
    | no => rw [e] at g; exact g
/-- an argument that is handed on as one's own -/
theorem pra_own {e : Expr} {es : List Expr} {A : E} {As : List E} {ms : List Bool} (ha : PE X e (tO X.K XC C W A)) (hr : PA X es (tAs X.K XC C W As ms)) (hs : starEach (e :: es) X.env = (false, eval e X.env) :: starEach es X.env := by rfl) : PA X (e :: es) (tAs X.K XC C W (A :: As) (true :: ms)) :=
  (pa_cons ha hr hs).imp' fun σ H Q h => by
    refine tM_bind (m := opnd (ev C A) A) (f := fun x e => (evAs C As ms e).bind fun xs e => .ok (x :: xs) e) (peβ := fun xs => xs.map Opd.pe) (okβ := fun xs σ vs => OpdsAt σ xs vs) (Q := fun _ => Q) (by
      have : evAs C (A :: As) (true :: ms) = fun e => (opnd (ev C A) A e).bind fun x e => (evAs C As ms e).bind fun xs e => .ok (x :: xs) e := by
        funext e; rw [evAs]; simp only [List.headD_cons, List.tail_cons]
      rw [← this]; exact h) fun F env F1 env1 x vs H1 S em P o g v ev_ => ?_
    obtain ⟨v', rfl, o⟩ := o
    cases ev_
    refine tM_next P ?_
    cases e : evAs C As ms env1 with
    | ok xs env2 =>
      rw [e] at g
      intro F2 H2 ws P2 o2
      exact g F2 H2 (v :: ws) (P.seq P2) ⟨v, ws, rfl, o, o2⟩
    | ex c ps env2 => rw [e] at g; exact g
    | no => rw [e] at g; exact g

/-! ### displays -/
theorem se_tup {es : List Expr} {k : Nat} {pos : Pos} {As : List E} (h : PA X es (tFs X.K XC C W As)) : PE X (.Tuple es k pos) (tE X.K XC C W (.tup As)) := (pe_tup h).imp' fun σ H Q h => by
  change tM X.K XC W (evs C As) (fun ds => ds.map .fz) (fun ds _ vs => vs.length = ds.length) σ H (fun _ xs H1 => _)
  refine tM_bind (m := evs C As) (f := fun ds e => if ds.length ≤ sizeLine then .ok (.fz (.tup ds)) e else .no) (peβ := fun r => [r]) (okβ := okR) (Q := one Q) (by
    have : ev C (.tup As) = fun e => (evs C As e).bind fun ds e => if ds.length ≤ sizeLine then .ok (.fz (.tup ds)) e else .no := by funext e; rw [ev]
    rw [← this]; exact h) fun F env F1 env1 ds vs H1 S em P o g => ?_
  by_cases hz : ds.length ≤ sizeLine
  · rw [if_pos hz] at g
    refine ⟨by rw [o]; exact hz, fun p hp => ?_⟩
    exact g _ _ [.ref p] (P.drop (Post.new P.base (new_tup P.base.le hp (P.st.frozen P.len o)))) ⟨by simp, _, rfl⟩ _ rfl
  · rw [if_neg hz] at g; exact g.elim
theorem se_lst {es : List Expr} {pos : Pos} {As : List E} (h : PA X es (tFs X.K XC C W As)) : PE X (.List es pos) (tE X.K XC C W (.lst As)) := (pe_lst h).imp' fun σ H Q h => by
  change tM X.K XC W (evs C As) (fun ds => ds.map .fz) (fun ds _ vs => vs.length = ds.length) σ H (fun _ xs H1 => _)
  refine tM_bind (m := evs C As) (f := fun ds e => if ds.length ≤ sizeLine then .ok (.ow (.lst ds)) e else .no) (peβ := fun r => [r]) (okβ := okR) (Q := one Q) (by
    have : ev C (.lst As) = fun e => (evs C As e).bind fun ds e => if ds.length ≤ sizeLine then .ok (.ow (.lst ds)) e else .no := by funext e; rw [ev]
    rw [← this]; exact h) fun F env F1 env1 ds vs H1 S em P o g => ?_
  by_cases hz : ds.length ≤ sizeLine
  · rw [if_pos hz] at g
    refine ⟨by rw [o]; exact hz, fun p hp => ?_⟩
    exact g _ _ [.ref p] (P.drop (Post.new P.base (new_lst P.base.le hp (P.st.frozen P.len o)))) ⟨by simp, _, rfl⟩ _ rfl
  · rw [if_neg hz] at g; exact g.elim

/-! ### prims -/
/-- the reading of a prim by values -/
def rPn (K : PySem.W.Frag) (f : List D → Option Ent) : List V → Hp → VK → Prop := fun vs H Q =>
  ∃ F ds res, FLe F H ∧ RdAll K F H ds vs ∧ f ds = some res ∧ res ≠ .un ∧ ∀ F' H' v, New K F H F' H' res v → Q v H'
abbrev rP1 (K : PySem.W.Frag) (f : List D → Option Ent) : V → Hp → VK → Prop := fun x => rPn K f [x]
abbrev rP2 (K : PySem.W.Frag) (f : List D → Option Ent) : R2 := fun x y => rPn K f [x, y]
theorem pn_end {XC : Str → Value → Prop} {W : WX} {K : PySem.W.Frag} {f : List D → Option Ent} {F F1 H H1 : Hp} {env env1 : En} {σ : L2.St} {xs : List Opd} {vs : List V} {Q : VK} (P : Post K F env σ H F1 env1 (xs.map Opd.pe) vs H1) (o : OpdsAt σ xs vs)
    (h : (onD f (allD env1 xs) env1).wish (fun r env2 => ∀ F2 H2 ws, Post K F env σ H F2 env2 [r] ws H2 → okR r σ ws → one Q r ws H2) fun c ps env2 => exP K XC W F env σ H c ps env2) : rPn K f vs H1 Q := by
  cases e : allD env1 xs with
  | none => rw [e] at h; exact h.elim
  | some ds =>
    rw [e] at h
    have R : RdAll K F1 H1 ds vs := St.opds (pre := []) (ps := []) (by simpa using P.st) P.len rfl o e
    cases e2 : f ds with
    | none => simp only [onD, e2, retE, Res.wish] at h
    | some r =>
      cases r with
      | un => simp only [onD, e2, retE, Res.wish] at h
      | fz d =>
        simp only [onD, e2, retE, Res.wish] at h
        exact ⟨F1, ds, _, P.base.le, R, e2, by simp, fun F' H' v n => h F' H' [v] (P.drop (Post.new P.base n)) ⟨by simp, v, rfl⟩ v rfl⟩
      | ow d =>
        simp only [onD, e2, retE, Res.wish] at h
        exact ⟨F1, ds, _, P.base.le, R, e2, by simp, fun F' H' v n => h F' H' [v] (P.drop (Post.new P.base n)) ⟨by simp, v, rfl⟩ v rfl⟩
theorem t_call {f : List D → Option Ent} {As : List E} {σ : L2.St} {H : Hp} {Q : VK} (h : tE X.K XC C W (.pn f As) σ H Q) : tCB (rPn X.K f) (tOs X.K XC C W As) σ H Q := by
  change tM X.K XC W (evOs C As) (fun xs => xs.map Opd.pe) (fun xs σ vs => OpdsAt σ xs vs) σ H (fun _ xs H1 => _)
  refine tM_bind (m := evOs C As) (f := fun xs e => onD f (allD e xs) e) (peβ := fun r => [r]) (okβ := okR) (Q := one Q) (by
    have : ev C (.pn f As) = fun e => (evOs C As e).bind fun xs e => onD f (allD e xs) e := by funext e; rw [ev]
    rw [← this]; exact h) fun F env F1 env1 xs vs H1 S em P o g => ?_
  exact pn_end P o g
theorem t_un {f : List D → Option Ent} {A : E} {σ : L2.St} {H : Hp} {Q : VK} (h : tE X.K XC C W (.pn f [A]) σ H Q) : tUn (rP1 X.K f) (tO X.K XC C W A) σ H Q := by
  refine tM_bind (m := opnd (ev C A) A) (f := fun x e => onD f (allD e [x]) e) (peβ := fun r => [r]) (okβ := okR) (Q := one Q) (by
    have : ev C (.pn f [A]) = fun e => (opnd (ev C A) A e).bind fun x e => onD f (allD e [x]) e := by
      funext e; rw [ev]; simp only [evOs]
      cases opnd (ev C A) A e <;> rfl
    rw [← this]; exact h) fun F env F1 env1 x vs H1 S em P o g v ev_ => ?_
  obtain ⟨v', rfl, o⟩ := o
  cases ev_
  exact pn_end (xs := [x]) P ⟨_, [], rfl, o, rfl⟩ g
theorem t_bin {f : List D → Option Ent} {A B : E} {σ : L2.St} {H : Hp} {Q : VK} (h : tE X.K XC C W (.pn f [A, B]) σ H Q) : tOp (rP2 X.K f) (tO X.K XC C W A) (tO X.K XC C W B) σ H Q := by
  refine tM_bind (m := opnd (ev C A) A) (f := fun x e => (opnd (ev C B) B e).bind fun y e => onD f (allD e [x, y]) e) (peβ := fun r => [r]) (okβ := okR) (Q := one Q) (by
    have : ev C (.pn f [A, B]) = fun e => (opnd (ev C A) A e).bind fun x e => (opnd (ev C B) B e).bind fun y e => onD f (allD e [x, y]) e := by
      funext e; rw [ev]; simp only [evOs]
      cases opnd (ev C A) A e with
      | ok x e1 => simp only [Res.bind]; cases opnd (ev C B) B e1 <;> rfl
      | ex => rfl
      | no => rfl
    rw [← this]; exact h) fun F env F1 env1 x vs H1 S em P o g v ev_ => ?_
  obtain ⟨v', rfl, o⟩ := o
  cases ev_
  refine tM_next P ?_
  cases e : opnd (ev C B) B env1 with
  | ok y env2 =>
    rw [e] at g
    intro F2 H2 ws P2 o2 w ew
    obtain ⟨w', rfl, o2⟩ := o2
    cases ew
    exact pn_end (xs := [x, y]) (P.seq P2) ⟨_, _, rfl, o, _, [], rfl, o2, rfl⟩ g
  | ex c ps env2 => rw [e] at g; exact g
  | no => rw [e] at g; exact g
variable {a b c : Expr} {A B : E} {f : List D → Option Ent} {pos : Pos}
theorem se_bin {op : Operator} (ho : OpR X (binaryOp op) (rP2 X.K f)) (ha : PE X a (tO X.K XC C W A)) (hb : PE X b (tO X.K XC C W B)) : PE X (.BinOp a op b pos) (tE X.K XC C W (.pn f [A, B])) := (pe_op ho ha hb).imp' fun _ _ _ => t_bin
theorem se_un {op : UnaryOp} (ho : UnR X (unaryOp op) (rP1 X.K f)) (ha : PE X a (tO X.K XC C W A)) : PE X (.UnaryOp op a pos) (tE X.K XC C W (.pn f [A])) := (pe_un ho ha).imp' fun _ _ _ => t_un
theorem se_cmp {op : CmpOp} (ho : OpR X (compareOp op) (rP2 X.K f)) (ha : PE X a (tO X.K XC C W A)) (hb : PE X b (tO X.K XC C W B)) (hm : behindInMarks op b = false := by first | exact nomark _ | rfl) : PE X (.Compare a [op] [b] pos) (tE X.K XC C W (.pn f [A, B])) := (pe_cmpR ho ha hb hm).imp' fun _ _ _ => t_bin
theorem se_callB {x : Str} {p : Pos} {e : Expr} {es : List Expr} {As : List E} {id : String} (hc : CallR X (.builtin id) (rPn X.K f)) (hg : Gl X x) (hm : X.mg x = none) (hv : bootBuiltins x = some (.builtin id)) (ha : PA X (e :: es) (tOs X.K XC C W As)) (hn : x ≠ "__name__" := by decide) (hdb : (x == ("__debug__" : Str)) = false := by decide)
    (hs : starEach (e :: es) X.env = (false, eval e X.env) :: starEach es X.env := by rfl) (hpl : (backTo pos (starEach es X.env)).any (·.1) = false := by rfl) : PE X (.Call (.Name x p) (e :: es) [] pos) (tE X.K XC C W (.pn f As)) := (pe_callB hc hg hm hv ha hn hdb hs hpl).imp' fun _ _ _ => t_call
theorem se_callTy {x : Str} {p : Pos} {e : Expr} {es : List Expr} {As : List E} {id : String} (hc : CallR X (.type id) (rPn X.K f)) (hg : Gl X x) (hm : X.mg x = none) (hv : bootBuiltins x = some (.type id)) (ha : PA X (e :: es) (tOs X.K XC C W As)) (hn : x ≠ "__name__" := by decide) (hdb : (x == ("__debug__" : Str)) = false := by decide)
    (hs : starEach (e :: es) X.env = (false, eval e X.env) :: starEach es X.env := by rfl) (hpl : (backTo pos (starEach es X.env)).any (·.1) = false := by rfl) : PE X (.Call (.Name x p) (e :: es) [] pos) (tE X.K XC C W (.pn f As)) := (pe_callTy hc hg hm hv ha hn hdb hs hpl).imp' fun _ _ _ => t_call
end
end PI

end

section
set_option maxRecDepth 100000
set_option maxHeartbeats 1000000
/-! Pi7: tests, and, or, not, conditional expressions, chains, calls. -/
namespace PI
open PySem PySem.Spec PyProof.Rows L2

/-! ### truth -/
theorem RepAll.isEmpty {K : PySem.W.Frag} {F : Hp} {ds : List D} {vs : List V} (r : RepAll K F ds vs) : vs.isEmpty = ds.isEmpty := by
  have := r.length
  cases vs <;> cases ds <;> simp_all
theorem tru_of {K : PySem.W.Frag} {F H : Hp} {d : D} {v : V} {b : Bool} (l : FLe F H) (r : Rdb K F H d v) (e : truth d = some b) : TruV K v H b := by
  have q := r.read l
  cases d with
  | non => cases (show v = _ from q); exact (Option.some.inj e).symm
  | bl c => cases (show v = _ from q); exact (Option.some.inj e).symm
  | int i => cases (show v = _ from q); exact (Option.some.inj e).symm
  | str x =>
    cases (show v = _ from q)
    replace e : (if x.length ≤ sizeLine then some (x.length != 0) else none) = some b := e
    split at e
    · rename_i h
      refine ⟨h, ?_⟩
      rw [← Option.some.inj e]
      cases q : x.length with
      | zero => rfl
      | succ n => simp; omega
    · cases e
  | tup ds =>
    obtain ⟨a, vs, rfl, s, r⟩ := q
    exact .inr (.inl ⟨vs, s, by rw [r.isEmpty]; exact (Option.some.inj e).symm⟩)
  | lst ds =>
    obtain ⟨a, vs, rfl, s, r⟩ := q
    exact .inl ⟨vs, SqL.of s, by rw [r.isEmpty]; exact (Option.some.inj e).symm⟩
  | dct _ _ => exact q.elim
  | set _ => exact q.elim
  | exc _ _ => exact q.elim
  | scr _ => cases e
theorem onB_ok {r : Ent} {e e' : En} {b : Bool} (h : onB r e = .ok b e') : e' = e ∧ ∃ d, r.d = some d ∧ truth d = some b := by
  unfold onB at h
  cases q : r.d with
  | none => rw [q] at h; cases h
  | some d =>
    rw [q] at h
    simp only [Option.bind] at h
    cases q2 : truth d with
    | none => rw [q2] at h; cases h
    | some c => rw [q2] at h; cases h; exact ⟨rfl, d, rfl, q2⟩
theorem onB_noex {r : Ent} {e e' : En} {c : Str} {ps : List D} : onB r e ≠ .ex c ps e' := by
  unfold onB
  intro h
  split at h <;> cases h

section
variable {X : Cx} {XC : Str → Value → Prop} {C : Calls} {W : WX}
theorem ev_pn_res {f : List D → Option Ent} {es : List E} {env env1 : En} {r : Ent} (h : ev C (.pn f es) env = .ok r env1) : ∃ ds, f ds = some r := by
  rw [ev] at h
  obtain ⟨xs, e1, _, h⟩ := Res.bind_ok h
  unfold onD at h
  split at h
  · unfold retE at h
    split at h
    · cases h
    · rename_i ds _ r' hn e
      cases h
      exact ⟨_, e⟩
    · cases h
  · cases h
/-- an operand's readable value -/
theorem opd1 {K : PySem.W.Frag} {F F1 H H1 : Hp} {env env1 : En} {σ : L2.St} {x : Opd} {v : V} {d : D} (P : Post K F env σ H F1 env1 [x.pe] [v] H1) (o : OpdAt σ x v) (e : (x.ent env1).d = some d) : Rdb K F1 H1 d v :=
  St.opd (pre := []) (ps := [v]) (by simpa using P.st) P.len rfl rfl o e
theorem tT_e {A : E} {σ : L2.St} {H : Hp} {Q : Bool → Hp → Prop} (h : tT X.K XC C W (.e A) σ H Q) : tO X.K XC C W A σ H fun x H1 => ∃ k, TruV X.K x H1 k ∧ Q k H1 := by
  refine tM_bind (m := opnd (ev C A) A) (f := fun x e => onB (x.ent e) e) (peβ := fun _ => []) (okβ := fun _ _ _ => True) (Q := fun b _ => Q b) (by
    have : evT C (.e A) = fun e => (opnd (ev C A) A e).bind fun x e => onB (x.ent e) e := by funext e; rw [evT]
    rw [← this]; exact h) fun F env F1 env1 x vs H1 S em P o g v ev_ => ?_
  obtain ⟨v', rfl, o⟩ := o
  cases ev_
  cases e : onB (x.ent env1) env1 with
  | ok b env2 =>
    obtain ⟨rfl, d, h1, h2⟩ := onB_ok e
    rw [e] at g
    exact ⟨b, tru_of P.base.le (opd1 P o h1) h2, g F1 H1 [] (Post.of P.base P.bext) trivial⟩
  | ex => exact (onB_noex e).elim
  | no => rw [e] at g; exact g.elim
variable {a b c : Expr} {rest : List Expr} {A B : E} {pos : Pos} {TA TB : T}
/-- a test of any expression, by truth -/
theorem st_e (ha : PE X a (tO X.K XC C W A)) (he : ∀ whole, isTrue a X.env whole = (do let v ← whole; standAt a.pos; holding [v] (truthy v)) := by intro _; rfl) : PT X a (tT X.K XC C W (.e A)) := (pt_truth ha he).imp' fun _ _ _ => tT_e
/-- a comparison as a test -/
theorem st_cmp {op : CmpOp} {f : List D → Option Ent} (ho : OpR X (compareOp op) (rP2 X.K f)) (hf : ∀ ds r, f ds = some r → ∃ b, r = .fz (.bl b)) (ha : PE X a (tO X.K XC C W A)) (hb : PE X b (tO X.K XC C W B)) (hm : behindInMarks op b = false := by first | exact nomark _ | rfl) : PT X (.Compare a [op] [b] pos) (tT X.K XC C W (.e (.pn f [A, B]))) :=
  (pt_cmpR ho ha hb hm).imp' fun σ H Q h => by
    refine t_bin (f := f) (Q := fun x H' => ∃ k, x = .bl k ∧ Q k H') ?_
    refine tM_bind (m := ev C (.pn f [A, B])) (f := fun r e => onB r e) (peβ := fun _ => []) (okβ := fun _ _ _ => True) (Q := fun b _ => Q b) (by
      have : evT C (.e (.pn f [A, B])) = fun e => (ev C (.pn f [A, B]) e).bind fun r e => onB r e := by
        funext e; rw [evT]; unfold opnd isVar
        show Res.bind (Res.bind _ _) _ = _
        cases ev C (.pn f [A, B]) e <;> rfl
      rw [← this]; exact h) fun F env F1 env1 r vs H1 S em P o g v ev_ => ?_
    obtain ⟨hr, v', rfl⟩ := o
    cases ev_
    cases e : onB r env1 with
    | ok b env2 =>
      obtain ⟨rfl, d, h1, h2⟩ := onB_ok e
      rw [e] at g
      have hb' : r = .fz (.bl b) := by
        obtain ⟨ds, e3⟩ := ev_pn_res em
        obtain ⟨c, rfl⟩ := hf ds r e3
        cases h1
        cases h2
        rfl
      subst hb'
      exact ⟨b, P.st.lastEnt P.len hr, g F1 H1 [] (Post.of P.base P.bext) trivial⟩
    | ex => exact (onB_noex e).elim
    | no => rw [e] at g; exact g.elim
theorem st_not (ha : PT X a (tT X.K XC C W TA)) : PT X (.UnaryOp .Not a pos) (tT X.K XC C W (.not TA)) := (pt_not ha).imp' fun σ H Q h => by
  change tM X.K XC W (evT C TA) (fun _ => []) (fun _ _ _ => True) σ H (fun b _ H1 => _)
  refine tM_bind (m := evT C TA) (f := fun c e => .ok (!c) e) (peβ := fun _ => []) (okβ := fun _ _ _ => True) (Q := fun b _ => Q b) (by
    have : evT C (.not TA) = fun e => (evT C TA e).bind fun c e => .ok (!c) e := by funext e; rw [evT]
    rw [← this]; exact h) fun F env F1 env1 r vs H1 S em P o g => ?_
  exact g F1 H1 vs P trivial
theorem sw_and1 (ha : PT X a (tT X.K XC C W TA)) : PW X (.BoolOp .And [a] pos) (tT X.K XC C W TA) := pw_and1 ha
theorem sw_or1 (ha : PT X a (tT X.K XC C W TA)) : PW X (.BoolOp .Or [a] pos) (tT X.K XC C W TA) := pw_or1 ha
theorem sw_and (ha : PT X a (tT X.K XC C W TA)) (hb : PW X (.BoolOp .And (b :: rest) pos) (tT X.K XC C W TB)) : PW X (.BoolOp .And (a :: b :: rest) pos) (tT X.K XC C W (.and TA TB)) := (pw_and ha hb).imp' fun σ H Q h => by
  change tM X.K XC W (evT C TA) (fun _ => []) (fun _ _ _ => True) σ H (fun b _ H1 => _)
  refine tM_bind (m := evT C TA) (f := fun c e => if c = true then evT C TB e else .ok false e) (peβ := fun _ => []) (okβ := fun _ _ _ => True) (Q := fun b _ => Q b) (by
    have : evT C (.and TA TB) = fun e => (evT C TA e).bind fun c e => if c = true then evT C TB e else .ok false e := by funext e; rw [evT]
    rw [← this]; exact h) fun F env F1 env1 r vs H1 S em P o g => ?_
  cases r with
  | true =>
    rw [if_pos rfl] at g ⊢
    refine tM_next P ?_
    cases e : evT C TB env1 with
    | ok y env2 => rw [e] at g; exact fun F2 H2 ws P2 o2 => g F2 H2 ws (P.drop P2) trivial
    | ex => rw [e] at g; exact g
    | no => rw [e] at g; exact g
  | false =>
    rw [if_neg (by decide)] at g ⊢
    exact g F1 H1 vs P trivial
theorem sw_or (ha : PT X a (tT X.K XC C W TA)) (hb : PW X (.BoolOp .Or (b :: rest) pos) (tT X.K XC C W TB)) : PW X (.BoolOp .Or (a :: b :: rest) pos) (tT X.K XC C W (.or TA TB)) := (pw_or ha hb).imp' fun σ H Q h => by
  change tM X.K XC W (evT C TA) (fun _ => []) (fun _ _ _ => True) σ H (fun b _ H1 => _)
  refine tM_bind (m := evT C TA) (f := fun c e => if c = true then .ok true e else evT C TB e) (peβ := fun _ => []) (okβ := fun _ _ _ => True) (Q := fun b _ => Q b) (by
    have : evT C (.or TA TB) = fun e => (evT C TA e).bind fun c e => if c = true then .ok true e else evT C TB e := by funext e; rw [evT]
    rw [← this]; exact h) fun F env F1 env1 r vs H1 S em P o g => ?_
  cases r with
  | true =>
    rw [if_pos rfl] at g ⊢
    exact g F1 H1 vs P trivial
  | false =>
    rw [if_neg (by decide)] at g ⊢
    refine tM_next P ?_
    cases e : evT C TB env1 with
    | ok y env2 => rw [e] at g; exact fun F2 H2 ws P2 o2 => g F2 H2 ws (P.drop P2) trivial
    | ex => rw [e] at g; exact g
    | no => rw [e] at g; exact g
/-- e1 if c else e2 -/
theorem se_ite (hc : PT X c (tT X.K XC C W TA)) (ha : PE X a (tE X.K XC C W A)) (hb : PE X b (tE X.K XC C W B)) : PE X (.IfExp c a b pos) (tE X.K XC C W (.ite TA A B)) := (pe_ifExp hc ha hb).imp' fun σ H Q h => by
  change tM X.K XC W (evT C TA) (fun _ => []) (fun _ _ _ => True) σ H (fun b _ H1 => _)
  refine tM_bind (m := evT C TA) (f := fun t e => if t = true then ev C A e else ev C B e) (peβ := fun r => [r]) (okβ := okR) (Q := one Q) (by
    have : ev C (.ite TA A B) = fun e => (evT C TA e).bind fun t e => if t = true then ev C A e else ev C B e := by funext e; rw [ev]
    rw [← this]; exact h) fun F env F1 env1 r vs H1 S em P o g => ?_
  cases r with
  | true =>
    rw [if_pos rfl] at g ⊢
    refine tM_next P ?_
    cases e : ev C A env1 with
    | ok y env2 => rw [e] at g; exact fun F2 H2 ws P2 o2 => g F2 H2 ws (P.drop P2) o2
    | ex => rw [e] at g; exact g
    | no => rw [e] at g; exact g
  | false =>
    rw [if_neg (by decide)] at g ⊢
    refine tM_next P ?_
    cases e : ev C B env1 with
    | ok y env2 => rw [e] at g; exact fun F2 H2 ws P2 o2 => g F2 H2 ws (P.drop P2) o2
    | ex => rw [e] at g; exact g
    | no => rw [e] at g; exact g
theorem se_not (ha : PE X a (tO X.K XC C W A)) : PE X (.UnaryOp .Not a pos) (tE X.K XC C W (.not A)) := (pe_notT ha).imp' fun σ H Q h => by
  refine tM_bind (m := opnd (ev C A) A) (f := fun x e => (onB (x.ent e) e).bind fun b e => .ok (.fz (.bl (!b))) e) (peβ := fun r => [r]) (okβ := okR) (Q := one Q) (by
    have : ev C (.not A) = fun e => (opnd (ev C A) A e).bind fun x e => (onB (x.ent e) e).bind fun b e => .ok (.fz (.bl (!b))) e := by funext e; rw [ev]
    rw [← this]; exact h) fun F env F1 env1 x vs H1 S em P o g v ev_ => ?_
  obtain ⟨v', rfl, o⟩ := o
  cases ev_
  cases e : onB (x.ent env1) env1 with
  | ok b env2 =>
    obtain ⟨rfl, d, h1, h2⟩ := onB_ok e
    rw [e] at g
    exact ⟨b, tru_of P.base.le (opd1 P o h1) h2, g F1 H1 [.bl (!b)] (P.drop (Post.new P.base (new_scal P.base.le (by unfold Rep; rfl)))) ⟨by simp, _, rfl⟩ _ rfl⟩
  | ex => exact (onB_noex e).elim
  | no => rw [e] at g; exact g.elim
theorem se_one {op} (h : PE X a (tE X.K XC C W A)) : PE X (.BoolOp op [a] pos) (tE X.K XC C W A) := pe_one h
theorem rdbE {K : PySem.W.Frag} {F H : Hp} {r : Ent} {v : V} {d : D} (h : EntOk K F H r v) (e : r.d = some d) : Rdb K F H d v := h.rdb e
theorem se_and (ha : PE X a (tE X.K XC C W A)) (hb : PE X (.BoolOp .And (b :: rest) pos) (tE X.K XC C W B)) : PE X (.BoolOp .And (a :: b :: rest) pos) (tE X.K XC C W (.and A B)) := (pe_andT ha hb).imp' fun σ H Q h => by
  refine tM_bind (m := ev C A) (f := fun r e => (onB r e).bind fun t e => if t = true then ev C B e else .ok r e) (peβ := fun r => [r]) (okβ := okR) (Q := one Q) (by
    have : ev C (.and A B) = fun e => (ev C A e).bind fun r e => (onB r e).bind fun t e => if t = true then ev C B e else .ok r e := by funext e; rw [ev]
    rw [← this]; exact h) fun F env F1 env1 r vs H1 S em P o g v ev_ => ?_
  obtain ⟨hr, v', rfl⟩ := o
  cases ev_
  cases e : onB r env1 with
  | ok t env2 =>
    obtain ⟨rfl, d, h1, h2⟩ := onB_ok e
    rw [e] at g
    refine ⟨t, tru_of P.base.le ((P.st.lastEnt P.len hr).rdb h1) h2, ?_⟩
    replace g : (if t = true then ev C B env2 else .ok r env2).wish _ _ := g
    cases t with
    | true =>
      rw [if_pos rfl] at g ⊢
      refine tM_next P ?_
      cases e : ev C B env2 with
      | ok y env3 => rw [e] at g; exact fun F2 H2 ws P2 o2 => g F2 H2 ws (P.drop P2) o2
      | ex => rw [e] at g; exact g
      | no => rw [e] at g; exact g
    | false =>
      rw [if_neg (by decide)] at g ⊢
      exact g F1 H1 [v] P ⟨hr, v, rfl⟩ v rfl
  | ex => exact (onB_noex e).elim
  | no => rw [e] at g; exact g.elim
theorem se_or (ha : PE X a (tE X.K XC C W A)) (hb : PE X (.BoolOp .Or (b :: rest) pos) (tE X.K XC C W B)) : PE X (.BoolOp .Or (a :: b :: rest) pos) (tE X.K XC C W (.or A B)) := (pe_orT ha hb).imp' fun σ H Q h => by
  refine tM_bind (m := ev C A) (f := fun r e => (onB r e).bind fun t e => if t = true then .ok r e else ev C B e) (peβ := fun r => [r]) (okβ := okR) (Q := one Q) (by
    have : ev C (.or A B) = fun e => (ev C A e).bind fun r e => (onB r e).bind fun t e => if t = true then .ok r e else ev C B e := by funext e; rw [ev]
    rw [← this]; exact h) fun F env F1 env1 r vs H1 S em P o g v ev_ => ?_
  obtain ⟨hr, v', rfl⟩ := o
  cases ev_
  cases e : onB r env1 with
  | ok t env2 =>
    obtain ⟨rfl, d, h1, h2⟩ := onB_ok e
    rw [e] at g
    refine ⟨t, tru_of P.base.le ((P.st.lastEnt P.len hr).rdb h1) h2, ?_⟩
    replace g : (if t = true then .ok r env2 else ev C B env2).wish _ _ := g
    cases t with
    | true =>
      rw [if_pos rfl] at g ⊢
      exact g F1 H1 [v] P ⟨hr, v, rfl⟩ v rfl
    | false =>
      rw [if_neg (by decide)] at g ⊢
      refine tM_next P ?_
      cases e : ev C B env2 with
      | ok y env3 => rw [e] at g; exact fun F2 H2 ws P2 o2 => g F2 H2 ws (P.drop P2) o2
      | ex => rw [e] at g; exact g
      | no => rw [e] at g; exact g
  | ex => exact (onB_noex e).elim
  | no => rw [e] at g; exact g.elim
end
end PI

end

section
set_option maxRecDepth 100000
set_option maxHeartbeats 1000000
/-! Pi8: calls. -/
namespace PI
open PySem PySem.Spec PyProof.Rows L2

section
variable {K : PySem.W.Frag} {F H : Hp} {env env' : En} {σ σ' : L2.St}
/-- entries in another order, some forgotten -/
theorem St.rel (S : St K F env σ H) (R : Nat → Nat → Prop) (hl : env'.length = σ'.length) (inj : ∀ i j k, R i k → R j k → i = j)
    (he : ∀ (i : Nat) (r : Ent), env'[i]? = some r → r ≠ .un → ∃ k, R i k ∧ env[k]? = some r ∧ ∀ v : V, σ[k]? = some (some v) → σ'[i]? = some (some v)) : St K F env' σ' H ∧ Ext F env σ H F env' σ' H := by
  refine ⟨⟨hl, S.le, fun i r e hr => ?_, fun i j d1 d2 a h1 h2 h3 h4 => ?_⟩, ⟨FLe.refl, fun _ _ h _ => h, fun a q => ?_, fun _ _ h h' => by rw [h] at h'; cases h'⟩⟩
  · obtain ⟨k, _, h1, h2⟩ := he i r e hr
    obtain ⟨v, h3, h4⟩ := S.ent k r h1 hr
    exact ⟨v, h2 v h3, h4⟩
  · obtain ⟨k, r1, e1, g1⟩ := he i _ h1 (by simp)
    obtain ⟨l, r2, e2, g2⟩ := he j _ h2 (by simp)
    obtain ⟨v1, z1, _⟩ := S.ent k _ e1 (by simp)
    obtain ⟨v2, z2, _⟩ := S.ent l _ e2 (by simp)
    have y1 := (g1 v1 z1).symm.trans h3
    have y2 := (g2 v2 z2).symm.trans h4
    cases y1; cases y2
    have := S.sep k l d1 d2 a e1 e2 z1 z2
    subst this
    exact inj i j k r1 r2
  · obtain ⟨i, d, h1, h2⟩ := q
    obtain ⟨k, _, e1, g1⟩ := he i _ h1 (by simp)
    obtain ⟨v1, z1, _⟩ := S.ent k _ e1 (by simp)
    have y1 := (g1 v1 z1).symm.trans h2
    cases y1
    exact .inl ⟨k, d, e1, z1⟩
end

theorem mem_slots {i : Nat} : ∀ {xs : List Opd}, i ∈ slots xs ↔ ∃ j : Nat, xs[j]? = some (.sl i)
  | [] => by simp [slots]
  | .sl k :: xs => by
    unfold slots
    rw [List.mem_cons, mem_slots (xs := xs)]
    constructor
    · rintro (rfl | ⟨j, h⟩)
      · exact ⟨0, rfl⟩
      · exact ⟨j + 1, by simpa using h⟩
    · rintro ⟨j, h⟩
      cases j with
      | zero => simp at h; exact .inl h.symm
      | succ j => exact .inr ⟨j, by simpa using h⟩
  | .vl r :: xs => by
    unfold slots
    rw [mem_slots (xs := xs)]
    constructor
    · rintro ⟨j, h⟩
      exact ⟨j + 1, by simpa using h⟩
    · rintro ⟨j, h⟩
      cases j with
      | zero => simp at h
      | succ j => exact ⟨j, by simpa using h⟩
theorem slots_inj : ∀ {xs : List Opd}, (slots xs).Nodup → ∀ {i j k : Nat}, xs[j]? = some (.sl i) → xs[k]? = some (.sl i) → j = k
  | [], _, i, j, k, h, _ => by simp at h
  | .sl m :: xs, hn, i, j, k, h, h' => by
    unfold slots at hn
    rw [List.nodup_cons] at hn
    cases j with
    | zero =>
      simp at h; subst h
      cases k with
      | zero => rfl
      | succ k => exact (hn.1 (mem_slots.mpr ⟨k, by simpa using h'⟩)).elim
    | succ j =>
      cases k with
      | zero =>
        simp at h'; subst h'
        exact (hn.1 (mem_slots.mpr ⟨j, by simpa using h⟩)).elim
      | succ k =>
        have := slots_inj hn.2 (i := i) (j := j) (k := k) (by simpa using h) (by simpa using h')
        omega
  | .vl r :: xs, hn, i, j, k, h, h' => by
    cases j with
    | zero => simp at h
    | succ j =>
      cases k with
      | zero => simp at h'
      | succ k =>
        have := slots_inj (xs := xs) hn (i := i) (j := j) (k := k) (by simpa using h) (by simpa using h')
        omega
theorem putBack_length : ∀ {xs : List Opd} {os e : En}, (putBack xs os e).length = e.length
  | [], os, e => by unfold putBack; rfl
  | x :: xs, [], e => by unfold putBack; rfl
  | .sl i :: xs, o :: os, e => by unfold putBack; rw [putBack_length, List.length_set]
  | .vl r :: xs, o :: os, e => by unfold putBack; rw [putBack_length]
theorem putBack_get : ∀ {xs : List Opd} {os e : En} {i : Nat} {r : Ent}, os.length = xs.length → (putBack xs os e)[i]? = some r → (∃ j : Nat, xs[j]? = some (.sl i) ∧ os[j]? = some r) ∨ ((∀ j : Nat, xs[j]? ≠ some (.sl i)) ∧ e[i]? = some r)
  | [], os, e, i, r, hl, h => by unfold putBack at h; exact .inr ⟨by simp, h⟩
  | x :: xs, [], e, i, r, hl, h => by simp at hl
  | .vl q :: xs, o :: os, e, i, r, hl, h => by
    unfold putBack at h
    rcases putBack_get (by simpa using hl) h with ⟨j, h1, h2⟩ | ⟨h1, h2⟩
    · exact .inl ⟨j + 1, by simpa using h1, by simpa using h2⟩
    · refine .inr ⟨fun j => ?_, h2⟩
      cases j with
      | zero => simp
      | succ j => simpa using h1 j
  | .sl k :: xs, o :: os, e, i, r, hl, h => by
    unfold putBack at h
    rcases putBack_get (by simpa using hl) h with ⟨j, h1, h2⟩ | ⟨h1, h2⟩
    · exact .inl ⟨j + 1, by simpa using h1, by simpa using h2⟩
    · rcases getElem?_set_cases h2 with ⟨rfl, rfl, _⟩ | ⟨ne, h2⟩
      · exact .inl ⟨0, rfl, rfl⟩
      · refine .inr ⟨fun j => ?_, h2⟩
        cases j with
        | zero => simp; exact fun z => ne z.symm
        | succ j => simpa using h1 j
theorem wipeE_length (e : En) : ∀ is : List Nat, (wipeE e is).length = e.length
  | [] => rfl
  | i :: is => by unfold wipeE; rw [List.length_set, wipeE_length]
theorem wipeE_get {e : En} {i : Nat} {r : Ent} (hr : r ≠ .un) : ∀ {is : List Nat}, (wipeE e is)[i]? = some r → e[i]? = some r ∧ i ∉ is
  | [], h => ⟨h, by simp⟩
  | k :: is, h => by
    unfold wipeE at h
    rcases getElem?_set_cases h with ⟨_, rfl, _⟩ | ⟨ne, h⟩
    · exact (hr rfl).elim
    · obtain ⟨h1, h2⟩ := wipeE_get hr h
      exact ⟨h1, by simp only [List.mem_cons, not_or]; exact ⟨ne, h2⟩⟩
theorem OpdsAt.get {σ : L2.St} : ∀ {xs : List Opd} {vs : List V} {j : Nat} {x : Opd}, OpdsAt σ xs vs → xs[j]? = some x → ∃ v, vs[j]? = some v ∧ OpdAt σ x v
  | [], vs, j, x, h, e => by simp at e
  | y :: ys, vs, 0, x, h, e => by
    obtain ⟨v, r, rfl, h1, h2⟩ := h
    simp at e; subst e
    exact ⟨v, rfl, h1⟩
  | y :: ys, vs, j + 1, x, h, e => by
    obtain ⟨v, r, rfl, h1, h2⟩ := h
    obtain ⟨v', q1, q2⟩ := OpdsAt.get h2 (j := j) (by simpa using e)
    exact ⟨v', by simpa using q1, q2⟩

section
variable {K : PySem.W.Frag} {F F1 F' H H1 H' : Hp} {env env1 : En} {σ : L2.St} {xs : List Opd} {vs : List V}
/-- the arguments as the callee's entries, the caller's others beside them -/
theorem Post.args (P : Post K F env σ H F1 env1 (xs.map Opd.pe) vs H1) (o : OpdsAt σ xs vs) (hn : (slots xs).Nodup) :
    St K F1 (xs.map (Opd.ent env1) ++ wipeE env1 (slots xs)) (vs.map some ++ σ) H1 ∧ Ext F env σ H F1 (xs.map (Opd.ent env1) ++ wipeE env1 (slots xs)) (vs.map some ++ σ) H1 := by
  have hl := P.len
  have ho := o.length
  have R := P.st.rel (env' := xs.map (Opd.ent env1) ++ wipeE env1 (slots xs)) (σ' := vs.map some ++ σ)
    (fun j k => (∃ i, xs[j]? = some (.sl i) ∧ k = i ∧ i < env1.length) ∨ (∃ r, xs[j]? = some (.vl r) ∧ k = env1.length + j) ∨ (xs.length ≤ j ∧ k = j - xs.length ∧ k < env1.length ∧ k ∉ slots xs))
    (by simp [wipeE_length, hl, ho]) ?_ ?_
  · exact ⟨R.1, P.ext.trans R.2⟩
  · rintro i j k (⟨a, h1, rfl, h3⟩ | ⟨r, h1, rfl⟩ | ⟨h1, rfl, h2, h3⟩) (⟨b, g1, g2, g3⟩ | ⟨s, g1, g2⟩ | ⟨g1, g2, g3, g4⟩)
    · subst g2; exact slots_inj hn h1 g1
    · omega
    · subst g2; exact (g4 (mem_slots.mpr ⟨_, h1⟩)).elim
    · omega
    · omega
    · omega
    · rw [g2] at h3; exact (h3 (mem_slots.mpr ⟨_, g1⟩)).elim
    · omega
    · omega
  · intro j r e hr
    by_cases hj : j < xs.length
    · rw [List.getElem?_append_left (by simpa using hj), List.getElem?_map] at e
      obtain ⟨x, hx⟩ : ∃ x, xs[j]? = some x := ⟨xs[j], by simp [hj]⟩
      rw [hx] at e
      obtain ⟨v, hv, ov⟩ := o.get hx
      cases x with
      | sl i =>
        simp only [Option.map_some, Opd.ent, Option.some.injEq] at e
        cases q : env1[i]? with
        | none => rw [q] at e; simp at e; exact (hr e.symm).elim
        | some r' =>
          rw [q] at e; simp at e; subst e
          have hi := (List.getElem?_eq_some_iff.mp q).1
          refine ⟨i, .inl ⟨i, hx, rfl, hi⟩, by rw [List.getElem?_append_left hi]; exact q, fun v' e' => ?_⟩
          rw [List.getElem?_append_left (by omega)] at e'
          have : σ[i]? = some (some v) := ov
          rw [this] at e'; cases e'
          rw [List.getElem?_append_left (by simp; omega), List.getElem?_map, hv]
          rfl
      | vl r' =>
        simp only [Option.map_some, Opd.ent, Option.some.injEq] at e
        subst e
        refine ⟨env1.length + j, .inr (.inl ⟨_, hx, rfl⟩), ?_, fun v' e' => ?_⟩
        · rw [List.getElem?_append_right (by omega), Nat.add_sub_cancel_left, List.getElem?_map, hx]; rfl
        · rw [List.getElem?_append_right (by omega), hl, Nat.add_sub_cancel_left] at e'
          rw [List.getElem?_append_left (by simp; omega)]
          exact e'
    · rw [List.getElem?_append_right (by simpa using hj), List.length_map] at e
      obtain ⟨h1, h2⟩ := wipeE_get hr e
      have hi := (List.getElem?_eq_some_iff.mp h1).1
      refine ⟨j - xs.length, .inr (.inr ⟨by omega, rfl, hi, h2⟩), by rw [List.getElem?_append_left hi]; exact h1, fun v' e' => ?_⟩
      rw [List.getElem?_append_left (by omega)] at e'
      rw [List.getElem?_append_right (by simp; omega), List.length_map, ho]
      exact e'
/-- behind the call: what the callee hands back -/
theorem Post.back {outs pe : En} {rv : List V} (o : OpdsAt σ xs vs) (hn : (slots xs).Nodup) (hl : env1.length = σ.length) (ho : outs.length = xs.length) (hp : pe.length = rv.length)
    (S : St K F' ((outs ++ pe) ++ wipeE env1 (slots xs)) ((vs.map some ++ rv.map some) ++ σ) H') :
    St K F' (putBack xs outs env1 ++ pe) (σ ++ rv.map some) H' ∧ Ext F' ((outs ++ pe) ++ wipeE env1 (slots xs)) ((vs.map some ++ rv.map some) ++ σ) H' F' (putBack xs outs env1 ++ pe) (σ ++ rv.map some) H' := by
  have hv := o.length
  refine S.rel (fun i k => (i < env1.length ∧ xs[k]? = some (.sl i)) ∨ (i < env1.length ∧ i ∉ slots xs ∧ k = xs.length + pe.length + i) ∨ (env1.length ≤ i ∧ i < env1.length + pe.length ∧ k = xs.length + (i - env1.length))) (by simp [putBack_length, hl, hp]) ?_ ?_
  · rintro i j k (⟨h0, h1⟩ | ⟨h0, h1, rfl⟩ | ⟨h0, h1, rfl⟩) (⟨g0, g1⟩ | ⟨g0, g1, g2⟩ | ⟨g0, g1, g2⟩)
    · rw [h1] at g1; cases g1; rfl
    · have := (List.getElem?_eq_some_iff.mp h1).1; omega
    · have := (List.getElem?_eq_some_iff.mp h1).1; omega
    · have := (List.getElem?_eq_some_iff.mp g1).1; omega
    · omega
    · omega
    · have := (List.getElem?_eq_some_iff.mp g1).1; omega
    · omega
    · omega
  · intro i r e hr
    by_cases hi : i < env1.length
    · rw [List.getElem?_append_left (by rw [putBack_length]; exact hi)] at e
      rcases putBack_get ho e with ⟨j, h1, h2⟩ | ⟨h1, h2⟩
      · have hj := (List.getElem?_eq_some_iff.mp h1).1
        obtain ⟨v, q1, q2⟩ := o.get h1
        refine ⟨j, .inl ⟨hi, h1⟩, ?_, fun v' e' => ?_⟩
        · rw [List.append_assoc, List.getElem?_append_left (by omega)]; exact h2
        · rw [List.append_assoc, List.getElem?_append_left (by simp; omega), List.getElem?_map, q1] at e'
          cases e'
          rw [List.getElem?_append_left (by omega)]
          exact q2
      · have hns : i ∉ slots xs := fun z => by
          obtain ⟨j, q⟩ := mem_slots.mp z
          exact h1 j q
        refine ⟨xs.length + pe.length + i, .inr (.inl ⟨hi, hns, rfl⟩), ?_, fun v' e' => ?_⟩
        · rw [List.getElem?_append_right (by simp; omega)]
          have : xs.length + pe.length + i - (outs ++ pe).length = i := by simp; omega
          rw [this]
          have w : ∀ (is : List Nat), i ∉ is → (wipeE env1 is)[i]? = env1[i]? := by
            intro is
            induction is with
            | nil => intro _; rfl
            | cons k is ih =>
              intro hk
              simp only [List.mem_cons, not_or] at hk
              unfold wipeE
              rw [List.getElem?_set_ne (Ne.symm hk.1)]
              exact ih hk.2
          rw [w _ hns]; exact h2
        · rw [List.getElem?_append_right (by simp; omega)] at e'
          have : xs.length + pe.length + i - (vs.map some ++ rv.map some).length = i := by simp; omega
          rw [this] at e'
          rw [List.getElem?_append_left (by omega)]
          exact e'
    · have hb : i < env1.length + pe.length := by
        have := (List.getElem?_eq_some_iff.mp e).1
        simp [putBack_length] at this; omega
      rw [List.getElem?_append_right (by rw [putBack_length]; omega), putBack_length] at e
      refine ⟨xs.length + (i - env1.length), .inr (.inr ⟨by omega, hb, rfl⟩), ?_, fun v' e' => ?_⟩
      · rw [List.append_assoc, List.getElem?_append_right (by omega), List.getElem?_append_left (by omega)]
        have : xs.length + (i - env1.length) - outs.length = i - env1.length := by omega
        rw [this]; exact e
      · rw [List.append_assoc, List.getElem?_append_right (by simp; omega), List.getElem?_append_left (by simp; omega)] at e'
        rw [List.getElem?_append_right (by omega)]
        have : xs.length + (i - env1.length) - (vs.map some).length = i - σ.length := by simp; omega
        rw [this] at e'
        exact e'
end

/-- a def's promise: what the evaluator's call gives -/
def spI (K : PySem.W.Frag) (XC : Str → Value → Prop) (C : Calls) (f : Nat) : Sp := fun vs H Q E => ∃ F args, St K F args (vs.map some) H ∧
  match C f args with
  | .ok r outs => r ≠ .un → ∀ F' H' v, St K F' (outs ++ [r]) (vs.map some ++ [some v]) H' → Ext F args (vs.map some) H F' (outs ++ [r]) (vs.map some ++ [some v]) H' → Q v H'
  | .ex c ps outs => ∀ F' H' cls dx, St K F' outs (vs.map some) H' → Ext F args (vs.map some) H F' outs (vs.map some) H' → ExOk K XC F' H' c ps cls dx → E cls dx H'
  | .no => False
section
variable {X : Cx} {XC : Str → Value → Prop} {C : Calls} {W : WX}
theorem t_callI {f : Nat} {As : List E} {ms : List Bool} {σ : L2.St} {H : Hp} {Q : VK} (h : tE X.K XC C W (.call f ms As) σ H Q) : tCallS (spI X.K XC C f) (WE W) (tAs X.K XC C W As ms) σ H Q := by
  change tM X.K XC W (evAs C As ms) (fun xs => xs.map Opd.pe) (fun xs σ vs => OpdsAt σ xs vs) σ H (fun _ xs H1 => _)
  refine tM_bind (m := evAs C As ms) (f := fun xs e => callWith C f xs e) (peβ := fun r => [r]) (okβ := okR) (Q := one Q) (by
    have : ev C (.call f ms As) = fun e => (evAs C As ms e).bind fun xs e => callWith C f xs e := by funext e; rw [ev]
    rw [← this]; exact h) fun F env F1 env1 xs vs H1 S em P o g => ?_
  unfold callWith at g
  by_cases hn : (slots xs).Nodup
  · rw [if_pos hn] at g
    obtain ⟨SA, XA⟩ := P.args o hn
    have la : (xs.map (Opd.ent env1)).length = (vs.map some).length := by simp [o.length]
    refine ⟨F1, xs.map (Opd.ent env1), SA.left la, ?_⟩
    cases e : C f (xs.map (Opd.ent env1)) with
    | ok r outs =>
      rw [e] at g
      intro hr F' H' v S' x'
      have lo : outs.length = xs.length := by have := S'.len; have := o.length; simp at *; omega
      have fr := St.frame (pe := wipeE env1 (slots xs)) (ps := σ) SA la S' x'
      have fx := Ext.frame (pe := wipeE env1 (slots xs)) (ps := σ) la S'.len x'
      obtain ⟨s2, x2⟩ := Post.back (pe := [r]) (rv := [v]) o hn P.len lo rfl (by simpa using fr)
      exact g F' H' [v] ⟨by simpa using s2, (XA.trans fx).trans (by simpa using x2), rfl⟩ ⟨hr, v, rfl⟩ v rfl
    | ex c ps outs =>
      rw [e] at g
      intro F' H' cls dx S' x' ex
      have lo : outs.length = xs.length := by have := S'.len; have := o.length; simp at *; omega
      have fr := St.frame (pe := wipeE env1 (slots xs)) (ps := σ) SA la S' x'
      have fx := Ext.frame (pe := wipeE env1 (slots xs)) (ps := σ) la S'.len x'
      obtain ⟨s2, x2⟩ := Post.back (pe := []) (rv := []) o hn P.len lo rfl (by simpa using fr)
      exact g F' H' cls dx (by simpa using s2) ((XA.trans fx).trans (by simpa using x2)) ex
    | no => rw [e] at g; exact g.elim
  · rw [if_neg hn] at g; exact g.elim
variable {k f : Nat} {fa : Addr} {fd : FuncData} {ps : List Str} {x : Str} {p pos : Pos} {e : Expr} {es : List Expr} {As : List E} {ms : List Bool}
/-- a def as the evaluator knows it -/
structure DefAt (P : Program) (w : World) (K : PySem.W.Frag) (mg : Str → Option Value) (base : Heap) (XC : Str → Value → Prop) (C : Calls) (k : Nat) (x : Str) (f : Nat) : Prop where
  ex : ∃ (fa : Addr) (fd : FuncData) (ps : List Str), FnOk P w K mg base (L2.CX P w) k fa fd ps (spI K XC C f) ∧ mg x = some (.ref fa) ∧ PySem.W.keepIn K (.ref fa) = true ∧ Binds K fd ps []
theorem se_call (G : DefAt X.prog X.w X.K X.mg X.base XC C k x f) (hr : Room k X.A) (hg : Gl X x) (tk : Takes X W) (ha : PA X (e :: es) (tAs X.K XC C W As ms)) (hdb : (x == ("__debug__" : Str)) = false := by decide) (he : starEach (e :: es) X.env = (false, eval e X.env) :: starEach es X.env := by rfl) (hpl : (backTo pos (starEach es X.env)).any (·.1) = false := by rfl) :
    PE X (.Call (.Name x p) (e :: es) [] pos) (tE X.K XC C W (.call f ms As)) := by
  obtain ⟨fa, fd, ps, F, hm, hk, hb⟩ := G.ex
  exact (pe_callS F hr hg hm hk hb (fun σ => passAt tk σ) ha hdb he hpl).imp' fun _ _ _ => t_callI
/-- a call without arguments -/
theorem se_call0 (G : DefAt X.prog X.w X.K X.mg X.base XC C k x f) (hr : Room k X.A) (hg : Gl X x) (tk : Takes X W) (hdb : (x == ("__debug__" : Str)) = false := by decide) : PE X (.Call (.Name x p) [] [] pos) (tE X.K XC C W (.call f [] [])) := by
  obtain ⟨fa, fd, ps, F, hm, hk, hb⟩ := G.ex
  constructor
  intro pins z σ G Q J h
  obtain ⟨F0, env, S, h3⟩ := t_callI h
  rw [show evAs C [] [] env = .ok [] env from by unfold evAs; rfl] at h3
  have go : wpAny (model X.prog X.w) X.A (call (.ref fa) []) (EP X pins σ Q) X.xe z := run_fnS (us := []) (vs := []) (E := WE W) F hr hb (passAt tk σ) J .nil (h3 _ G [] (Post.nil S) rfl)
  exact wpAny_Call_Name_kw (ld_glob J hg hm (PySem.W.callWith_K0 J.kIn hk go) hdb)
end
end PI

end

section
set_option maxRecDepth 100000
set_option maxHeartbeats 1000000
/-! Pi9: targets, what is walked, comprehensions. -/
namespace PI
open PySem PySem.Spec PyProof.Rows L2

mutual
def Tg.slots : Tg → List Nat
  | .nm i => [i]
  | .tp ts => Tg.slotss ts
def Tg.slotss : List Tg → List Nat
  | [] => []
  | t :: ts => Tg.slots t ++ Tg.slotss ts
end
mutual
theorem Tg.asg_length {pw : List Nat} : ∀ {t : Tg} {d : D} {e e' : En}, Tg.asg pw t d e = some e' → e'.length = e.length
  | .nm i, d, e, e', h => by
    unfold Tg.asg at h
    split at h
    · cases h
    · cases h; simp
  | .tp ts, d, e, e', h => by
    unfold Tg.asg at h
    cases d with
    | tup ds => exact Tg.asgs_length h
    | _ => cases h
theorem Tg.asgs_length {pw : List Nat} : ∀ {ts : List Tg} {ds : List D} {e e' : En}, Tg.asgs pw ts ds e = some e' → e'.length = e.length
  | [], ds, e, e', h => by
    unfold Tg.asgs at h
    cases ds with
    | nil => cases h; rfl
    | cons _ _ => cases h
  | t :: ts, ds, e, e', h => by
    unfold Tg.asgs at h
    cases ds with
    | nil => cases h
    | cons d ds =>
      dsimp only at h
      cases q : Tg.asg pw t d e with
      | none => rw [q] at h; cases h
      | some e1 =>
        rw [q] at h
        rw [Tg.asgs_length h, Tg.asg_length q]
end
section
variable {X : Cx}
def tGt (K : PySem.W.Frag) (pw : List Nat) (tg : Tg) : TG := fun v σ H Q => ∃ F env d e', St K F env σ H ∧ Rep K F d v ∧ Tg.asg pw tg d env = some e' ∧
  ∀ σ', St K F e' σ' H → Ext F env σ H F e' σ' H → σ'.length = σ.length → (∀ i, i ∉ tg.slots → σ'[i]? = σ[i]?) → (∀ i ∈ pw, σ'[i]? = σ[i]?) → Q σ' H
def tGts (K : PySem.W.Frag) (pw : List Nat) (tgs : List Tg) : TGs := fun vs σ H Q => ∃ F env ds e', St K F env σ H ∧ RepAll K F ds vs ∧ Tg.asgs pw tgs ds env = some e' ∧
  ∀ σ', St K F e' σ' H → Ext F env σ H F e' σ' H → σ'.length = σ.length → (∀ i, i ∉ Tg.slotss tgs → σ'[i]? = σ[i]?) → (∀ i ∈ pw, σ'[i]? = σ[i]?) → Q σ' H
theorem _root_.L2.PG.imp' {tg : Expr} {t t' : TG} (h : PG X tg t) (i : ∀ v σ H Q, t' v σ H Q → t v σ H Q) : PG X tg t' := ⟨fun pins s σ H v u Q I r q => h.run pins s σ H v u Q I r (i _ _ _ _ q)⟩
theorem _root_.L2.PGs.imp' {tgs : List Expr} {t t' : TGs} (h : PGs X tgs t) (i : ∀ v σ H Q, t' v σ H Q → t v σ H Q) : PGs X tgs t' := ⟨fun pins s σ H v u Q I r q => h.run pins s σ H v u Q I r (i _ _ _ _ q)⟩
theorem St.put {K : PySem.W.Frag} {F H : Hp} {env : En} {σ : L2.St} (S : St K F env σ H) {d : D} {v : V} (r : Rep K F d v) (i : Nat) : St K F (env.set i (.fz d)) (σ.set i (some v)) H ∧ Ext F env σ H F (env.set i (.fz d)) (σ.set i (some v)) H := by
  obtain ⟨S1, x1⟩ := S.new (new_scal S.le r)
  obtain ⟨S2, x2⟩ := S1.store S.len i
  exact ⟨S2, x1.trans x2⟩
theorem sg_nm {tg : Expr} {pw : List Nat} {i : Nat} (h : PG X tg (gName i)) : PG X tg (tGt X.K pw (.nm i)) := h.imp' fun v σ H Q h => by
  obtain ⟨F, env, d, e', S, r, e, q⟩ := h
  unfold Tg.asg at e
  split at e
  · cases e
  · rename_i hp
    cases e
    obtain ⟨S2, x2⟩ := S.put r i
    refine q _ S2 x2 (by simp) (fun j hj => ?_) fun j hj => ?_
    · rw [List.getElem?_set_ne]; rintro rfl; exact hj (by simp [Tg.slots])
    · rw [List.getElem?_set_ne]; rintro rfl; exact hp hj
theorem sgs_nil {pw : List Nat} : PGs X [] (tGts X.K pw []) := pgs_nil.imp' fun vs σ H Q h => by
  obtain ⟨F, env, ds, e', S, r, e, q⟩ := h
  cases ds with
  | cons _ _ => unfold Tg.asgs at e; cases e
  | nil =>
    unfold Tg.asgs at e; cases e
    exact ⟨r, q _ S Ext.refl rfl (fun _ _ => rfl) fun _ _ => rfl⟩
theorem sgs_cons {a : Expr} {es : List Expr} {pw : List Nat} {t : Tg} {ts : List Tg} (h1 : PG X a (tGt X.K pw t)) (h2 : PGs X es (tGts X.K pw ts)) (hs : (assignEach (a :: es) X.env).map (·.2) = assign a X.env :: (assignEach es X.env).map (·.2) := by rfl) : PGs X (a :: es) (tGts X.K pw (t :: ts)) := (pgs_cons h1 h2 hs).imp' fun vs σ H Q h => by
  obtain ⟨F, env, ds, e', S, r, e, q⟩ := h
  cases ds with
  | nil => unfold Tg.asgs at e; cases e
  | cons d ds =>
    obtain ⟨v, vr, rfl, r1, r2⟩ := r
    unfold Tg.asgs at e
    dsimp only at e
    cases z : Tg.asg pw t d env with
    | none => rw [z] at e; cases e
    | some e1 =>
      rw [z] at e
      refine ⟨v, vr, rfl, F, env, d, e1, S, r1, z, fun σ1 S1 x1 l1 o1 p1 => ?_⟩
      refine ⟨F, e1, ds, e', S1, r2, e, fun σ2 S2 x2 l2 o2 p2 => ?_⟩
      refine q σ2 S2 (x1.trans x2) (l2.trans l1) (fun j hj => ?_) fun j hj => (p2 j hj).trans (p1 j hj)
      simp only [Tg.slotss, List.mem_append, not_or] at hj
      exact (o2 j hj.2).trans (o1 j hj.1)
theorem sg_tp {es : List Expr} {k : Nat} {pos : Pos} {pw : List Nat} {ts : List Tg} (hc : X.calm = true) (h : PGs X es (tGts X.K pw ts)) (hn : (assignEach es X.env).length = ts.length := by rfl) (hst : (assignEach es X.env).findIdx? (·.1) = none := by rfl) :
    PG X (.Tuple es k pos) (tGt X.K pw (.tp ts)) := (pg_tup hc h hn hst).imp' fun v σ H Q h => by
  obtain ⟨F, env, d, e', S, r, e, q⟩ := h
  unfold Tg.asg at e
  cases d with
  | tup ds =>
    obtain ⟨a, vs, rfl, s, ra⟩ := r
    have hl : ts.length = ds.length := by
      clear q hn h ra s
      induction ts generalizing ds env with
      | nil => cases ds with
        | nil => rfl
        | cons _ _ => unfold Tg.asgs at e; cases e
      | cons t ts ih => cases ds with
        | nil => unfold Tg.asgs at e; cases e
        | cons d ds =>
          dsimp only at e
          unfold Tg.asgs at e
          dsimp only at e
          cases z : Tg.asg pw t d env with
          | none => rw [z] at e; cases e
          | some e1 =>
            rw [z] at e
            have : ∀ (ts : List Tg) (ds : List D) (en : En), Tg.asgs pw ts ds en = some e' → ts.length = ds.length := by
              intro ts
              induction ts with
              | nil => intro ds en q; cases ds with
                | nil => rfl
                | cons _ _ => unfold Tg.asgs at q; cases q
              | cons t ts ih => intro ds en q; cases ds with
                | nil => unfold Tg.asgs at q; cases q
                | cons d ds =>
                  unfold Tg.asgs at q
                  dsimp only at q
                  cases z : Tg.asg pw t d en with
                  | none => rw [z] at q; cases q
                  | some e1 => rw [z] at q; simp [ih _ _ q]
            simp [this _ _ _ e]
    exact ⟨a, vs, rfl, SqT.mono S.le s, by rw [ra.length, hl], F, env, ds, e', S, ra, e, fun σ' S' x l o p => q σ' S' x l (fun i hi => o i (by simpa [Tg.slots] using hi)) p⟩
  | _ => cases e

/-! ### what is walked -/
def ItOk (K : PySem.W.Frag) (F : Hp) (J : It) (xs : List D) : Prop := ∀ (F2 H2 : Hp) (i : Nat), FLe F F2 → FLe F2 H2 →
  (∀ d, xs[i]? = some d → J.go i H2 ∧ ∀ x H3, J.yld i H2 x H3 → ∃ F3, New K F2 H2 F3 H3 (.fz d) x) ∧ (xs.length ≤ i → J.stop i H2)
variable {XC : Str → Value → Prop} {C : Calls} {W : WX}
def tIt (K : PySem.W.Frag) (XC : Str → Value → Prop) (C : Calls) (W : WX) (ik : List D → Option (List D)) (ies : List E) : TI := fun σ H R => ∃ F env, St K F env σ H ∧
  (evs C ies env).wish (fun ds env' => ∃ xs, ik ds = some xs ∧ ∀ F' H' J, St K F' env' σ H' → Ext F env σ H F' env' σ H' → ItOk K F' J xs → R J H') fun c ps env' => exP K XC W F env σ H c ps env'
theorem _root_.L2.PI.imp' {tg iter : Expr} {t t' : TI} (h : PI X tg iter t) (i : ∀ σ H R, t' σ H R → t σ H R) : PI X tg iter t' := ⟨fun pins s σ H R I q => h.run pins s σ H R I (i _ _ _ q)⟩

theorem it_list {K : PySem.W.Frag} {F : Hp} {a : Addr} {vs : List V} {ds : List D} (s : SqL K F a vs) (r : RepAll K F ds vs) : ItOk K F (Itl K a) ds := fun F2 H2 i l l2 => by
  have s2 := SqL.mono (l.trans l2) s
  refine ⟨fun d e => ?_, fun h => ⟨vs, s2, by rw [r.length]; exact h⟩⟩
  obtain ⟨v, hv, rv⟩ := r.get e
  refine ⟨⟨vs, v, s2, hv⟩, fun x H3 y => ?_⟩
  obtain ⟨rfl, y⟩ := y
  have := y vs s2
  rw [hv] at this; cases this
  exact ⟨F2, new_scal l2 (Rep.mono l _ _ rv)⟩
theorem it_tup {K : PySem.W.Frag} {F : Hp} {a : Addr} {vs : List V} {ds : List D} (s : SqT K F a vs) (r : RepAll K F ds vs) : ItOk K F (Itt K a) ds := fun F2 H2 i l l2 => by
  have s2 := SqT.mono (l.trans l2) s
  refine ⟨fun d e => ?_, fun h => ⟨vs, s2, by rw [r.length]; exact h⟩⟩
  obtain ⟨v, hv, rv⟩ := r.get e
  refine ⟨⟨vs, v, s2, hv⟩, fun x H3 y => ?_⟩
  obtain ⟨rfl, y⟩ := y
  have := y vs s2
  rw [hv] at this; cases this
  exact ⟨F2, new_scal l2 (Rep.mono l _ _ rv)⟩
def rangeD (lo : Int) (n : Nat) : List D := (List.range n).map fun i => .int (lo + (i : Nat))
theorem it_range {K : PySem.W.Frag} {F : Hp} {lo : Int} {n : Nat} : ItOk K F (Itr lo n) (rangeD lo n) := fun F2 H2 i l l2 => by
  refine ⟨fun d e => ?_, fun h => by simpa [rangeD, Itr] using h⟩
  have hi : i < n := by have := (List.getElem?_eq_some_iff.mp e).1; simpa [rangeD] using this
  have : d = .int (lo + (i : Nat)) := by
    simp [rangeD, hi] at e; exact e.symm
  subst this
  refine ⟨hi, fun x H3 y => ?_⟩
  obtain ⟨rfl, rfl⟩ := y
  exact ⟨F2, new_scal l2 (by unfold Rep; rfl)⟩
theorem new_pair {K : PySem.W.Frag} {F H : Hp} {T : Addr} {d e : D} {x y : V} (l : FLe F H) (h : H T = none) (r1 : Rep K F d x) (r2 : Rep K F e y) : New K F H (upd F T (.tup [x, y])) (upd H T (.tup [x, y])) (.fz (.tup [d, e])) (.ref T) :=
  new_tup l h ⟨x, [y], rfl, r1, y, [], rfl, r2, rfl⟩
def enumD (n : Nat) : List D → List D
  | [] => []
  | d :: ds => .tup [.int n, d] :: enumD (n + 1) ds
theorem enumD_get : ∀ {ds : List D} {n i : Nat}, (enumD n ds)[i]? = (ds[i]?).map fun d => .tup [.int ((n + i : Nat) : Int), d]
  | [], n, i => by simp [enumD]
  | d :: ds, n, 0 => by simp [enumD]
  | d :: ds, n, i + 1 => by
    simp only [enumD, List.getElem?_cons_succ]
    rw [enumD_get]
    have : n + 1 + i = n + (i + 1) := by omega
    rw [this]
theorem enumD_length : ∀ {ds : List D} {n : Nat}, (enumD n ds).length = ds.length
  | [], n => rfl
  | d :: ds, n => by simp [enumD, enumD_length]
theorem it_enum {K : PySem.W.Frag} {F : Hp} {a : Addr} {vs : List V} {ds : List D} (s : SqL K F a vs) (r : RepAll K F ds vs) : ItOk K F (Ite K a) (enumD 0 ds) := fun F2 H2 i l l2 => by
  have s2 := SqL.mono (l.trans l2) s
  refine ⟨fun d e => ?_, fun h => ⟨vs, s2, by rw [r.length]; simpa [enumD_length] using h⟩⟩
  rw [enumD_get] at e
  cases q : ds[i]? with
  | none => rw [q] at e; cases e
  | some d' =>
    rw [q] at e
    simp only [Option.map_some, Option.some.injEq] at e
    subst e
    obtain ⟨v, hv, rv⟩ := r.get q
    refine ⟨⟨vs, v, s2, hv⟩, fun x H3 y => ?_⟩
    obtain ⟨T, z, rfl, hT, rfl, y⟩ := y
    have := y vs s2
    rw [hv] at this; cases this
    exact ⟨_, new_pair l2 hT (by simp [Rep]) (Rep.mono l _ _ rv)⟩
def zipD : List D → List D → List D
  | d :: ds, e :: es => .tup [d, e] :: zipD ds es
  | _, _ => []
theorem zipD_get : ∀ {ds es : List D} {i : Nat} {d : D}, (zipD ds es)[i]? = some d → ∃ a b, ds[i]? = some a ∧ es[i]? = some b ∧ d = .tup [a, b]
  | [], es, i, d, h => by simp [zipD] at h
  | d :: ds, [], i, d', h => by simp [zipD] at h
  | d :: ds, e :: es, 0, d', h => by simp [zipD] at h; exact ⟨d, e, rfl, rfl, h.symm⟩
  | d :: ds, e :: es, i + 1, d', h => by
    obtain ⟨a, b, h1, h2, h3⟩ := zipD_get (ds := ds) (es := es) (i := i) (by simpa [zipD] using h)
    exact ⟨a, b, by simpa using h1, by simpa using h2, h3⟩
theorem zipD_length : ∀ {ds es : List D}, (zipD ds es).length = min ds.length es.length
  | [], es => by simp [zipD]
  | d :: ds, [] => by simp [zipD]
  | d :: ds, e :: es => by simp [zipD, zipD_length]
theorem it_zip {K : PySem.W.Frag} {F : Hp} {a b : Addr} {vs ws : List V} {ds es : List D} (s : SqL K F a vs) (s' : SqL K F b ws) (r : RepAll K F ds vs) (r' : RepAll K F es ws) : ItOk K F (Itz K a b) (zipD ds es) := fun F2 H2 i l l2 => by
  have s2 := SqL.mono (l.trans l2) s
  have s2' := SqL.mono (l.trans l2) s'
  refine ⟨fun d e => ?_, fun h => ⟨vs, ws, s2, s2', by rw [r.length, r'.length]; rw [zipD_length] at h; omega⟩⟩
  obtain ⟨d1, d2, h1, h2, rfl⟩ := zipD_get e
  obtain ⟨v, hv, rv⟩ := r.get h1
  obtain ⟨w, hw, rw'⟩ := r'.get h2
  refine ⟨⟨vs, ws, v, w, s2, s2', hv, hw⟩, fun x H3 y => ?_⟩
  obtain ⟨T, z, z', rfl, hT, rfl, y, y'⟩ := y
  have := y vs s2
  rw [hv] at this; cases this
  have := y' ws s2'
  rw [hw] at this; cases this
  exact ⟨_, new_pair l2 hT (Rep.mono l _ _ rv) (Rep.mono l _ _ rw')⟩
theorem it_zipT {K : PySem.W.Frag} {F : Hp} {a b : Addr} {vs ws : List V} {ds es : List D} (s : SqT K F a vs) (s' : SqT K F b ws) (r : RepAll K F ds vs) (r' : RepAll K F es ws) : ItOk K F (RZ.ItzT K a b) (zipD ds es) := fun F2 H2 i l l2 => by
  have s2 := SqT.mono (l.trans l2) s
  have s2' := SqT.mono (l.trans l2) s'
  refine ⟨fun d e => ?_, fun h => ⟨vs, ws, s2, s2', by rw [r.length, r'.length]; rw [zipD_length] at h; omega⟩⟩
  obtain ⟨d1, d2, h1, h2, rfl⟩ := zipD_get e
  obtain ⟨v, hv, rv⟩ := r.get h1
  obtain ⟨w, hw, rw'⟩ := r'.get h2
  refine ⟨⟨vs, ws, v, w, s2, s2', hv, hw⟩, fun x H3 y => ?_⟩
  obtain ⟨T, z, z', rfl, hT, rfl, y, y'⟩ := y
  have := y vs s2
  rw [hv] at this; cases this
  have := y' ws s2'
  rw [hw] at this; cases this
  exact ⟨_, new_pair l2 hT (Rep.mono l _ _ rv) (Rep.mono l _ _ rw')⟩
/-- the items of what is walked, by kind -/
def ikVal : List D → Option (List D)
  | [.lst xs] => some xs
  | [.tup xs] => some xs
  | _ => none
def ikRange1 : List D → Option (List D)
  | [.int j] => if j.natAbs < 4611686018427387904 then some (rangeD 0 j.toNat) else none
  | _ => none
def ikRange2 : List D → Option (List D)
  | [.int i, .int j] => if i.natAbs < 4611686018427387904 ∧ j.natAbs < 4611686018427387904 then some (rangeD i (j - i).toNat) else none
  | _ => none
def ikList : List D → Option (List D)
  | [.lst xs] => some xs
  | _ => none
def ikTup : List D → Option (List D)
  | [.tup xs] => some xs
  | _ => none
def ikEnum : List D → Option (List D)
  | [.lst xs] => some (enumD 0 xs)
  | _ => none
def ikZip : List D → Option (List D)
  | [.lst xs, .lst ys] => some (zipD xs ys)
  | [.tup xs, .tup ys] => some (zipD xs ys)
  | _ => none
variable {tg iter a b : Expr} {A B : E} {p pos : Pos}
/-- the arguments of an iterable are frozen: its wish from its items' -/
theorem tIt_bind {ik : List D → Option (List D)} {ies : List E} {σ : L2.St} {H : Hp} {R : It → Hp → Prop} {Q1 : List V → Hp → Prop} (h : tIt X.K XC C W ik ies σ H R)
    (g : ∀ (F1 H1 : Hp) (ds xs : List D) (vs : List V), ik ds = some xs → FLe F1 H1 → RepAll X.K F1 ds vs → (∀ J, ItOk X.K F1 J xs → R J H1) → Q1 vs H1) : tFs X.K XC C W ies σ H Q1 := by
  obtain ⟨F, env, S, h⟩ := h
  refine ⟨F, env, S, ?_⟩
  cases e : evs C ies env with
  | ok ds env1 =>
    rw [e] at h
    obtain ⟨xs, hx, h⟩ := h
    intro F1 H1 vs P o
    exact g F1 H1 ds xs vs hx P.base.le (P.st.frozen P.len o) fun J hJ => h F1 H1 J P.base P.bext hJ
  | ex c ps env1 => rw [e] at h; exact h
  | no => rw [e] at h; exact h
theorem tF_of {A : E} {σ : L2.St} {H : Hp} {Q : VK} (h : tFs X.K XC C W [A] σ H (fun vs H => ∀ v, vs = [v] → Q v H)) : tF X.K XC C W A σ H Q := by
  change tM X.K XC W (frozen (ev C A)) (fun d => [Ent.fz d]) (fun _ _ vs => ∃ v, vs = [v]) σ H (one Q)
  refine tM_bind (m := frozen (ev C A)) (f := fun d e => .ok [d] e) (peβ := fun ds => ds.map .fz) (okβ := fun ds _ vs => vs.length = ds.length) (Q := fun _ vs H => ∀ v, vs = [v] → Q v H) (by
    have : evs C [A] = fun e => (frozen (ev C A) e).bind fun d e => .ok [d] e := by
      funext e; simp only [evs]
      cases frozen (ev C A) e <;> rfl
    rw [← this]; exact h) fun F env F1 env1 x vs H1 S em P o g v ev_ => ?_
  obtain ⟨v', rfl⟩ := o
  exact g F1 H1 _ P rfl v ev_
end
end PI

end

section
set_option maxRecDepth 100000
set_option maxHeartbeats 1000000
/-! Pi10: the rules of what is walked; comprehensions. -/
namespace PI
open PySem PySem.Spec PyProof.Rows L2
section
variable {X : Cx} {XC : Str → Value → Prop} {C : Calls} {W : WX} {tg l a b : Expr} {A B : E} {p pos : Pos}
/-- a list or a tuple is walked -/
def iSeq (K : PySem.W.Frag) (tl : TE) : TI := fun σ H R => tl σ H fun x H1 => ∃ q, x = .ref q ∧ ((∃ ys, SqL K H1 q ys ∧ R (Itl K q) H1) ∨ ∃ ys, SqT K H1 q ys ∧ R (Itt K q) H1)
/-- the iterator's record, laid last -/
theorem seq_end {J : It} {tn : Nat → Heap → Prop} {pins : List (Addr × Obj)} {σ : L2.St} {G : Hp} {z : Shared} {R : It → Hp → Prop} (o : Obj) (J1 : L2.Inv X pins σ G z) (T : Turn X.prog X.w X.K tg J [z.heap.objs.size] z.heap.objs.size tn) (h0 : tn 0 (z.heap.push o)) (r : R J G) :
    PIE X pins σ tg R (.ref z.heap.objs.size) { z with heap := z.heap.push o } := by
  have fresh := J1.hok.fresh (Nat.le_refl z.heap.objs.size)
  have kept : L2.Inv X pins σ G { z with heap := z.heap.push o } := J1.kept (t' := z.toks) fun c u hc => Heap.get?_push_of_some o hc
  refine ⟨z.heap.objs.size, [z.heap.objs.size], tn, J, G, rfl, kept, T, h0, ?_, r⟩
  intro c hc
  rw [List.mem_singleton] at hc
  rw [hc]
  exact J1.fpOk (Nat.le_refl _) fresh
theorem pi_seq {tl : TE} (hl : PE X l tl) : PI X tg l (iSeq X.K tl) := by
  constructor
  intro pins z σ G R J h
  refine thn (hl.run pins z σ G _ J h) ?_
  rintro v z1 ⟨x, G1, J1, rv, q, rfl, w⟩
  cases rv
  rcases w with ⟨ys, s, r⟩ | ⟨ys, s, r⟩
  · obtain ⟨us, _, pl, _⟩ := J1.list s
    exact wpAny_pyIter_list pl.isList (seq_end _ J1 (turn_list q _) ⟨_, Heap.get?_push_size _ rfl, rfl, rfl⟩ r)
  · obtain ⟨us, _, pl, _⟩ := J1.tuple s
    exact wpAny_pyIter_tuple (show z1.heap.IsTuple q us.toArray from pl) (seq_end _ J1 (turn_tuple q _) ⟨_, Heap.get?_push_size _ rfl, rfl, rfl⟩ r)
theorem ikVal_some {ds xs : List D} (h : ikVal ds = some xs) : ∃ ys, (ds = [.lst ys] ∨ ds = [.tup ys]) ∧ xs = ys := by
  unfold ikVal at h
  split at h
  · exact ⟨_, .inl rfl, (Option.some.inj h).symm⟩
  · exact ⟨_, .inr rfl, (Option.some.inj h).symm⟩
  · cases h
theorem si_val (ha : PE X a (tE X.K XC C W A)) : PI X tg a (tIt X.K XC C W ikVal [A]) := (pi_seq (se_f ha)).imp' fun σ H R h => by
  refine tF_of (tIt_bind h fun F1 H1 ds xs vs hx l r g v ev_ => ?_)
  subst ev_
  obtain ⟨ds, h1 | h1, rfl⟩ := ikVal_some hx
  · subst h1
    obtain ⟨v', vr, e, ⟨a, vs, rfl, s, ra⟩, q⟩ := r
    cases e
    exact ⟨a, rfl, .inl ⟨vs, SqL.of (l _ _ s), g _ (it_list (SqL.of s) ra)⟩⟩
  · subst h1
    obtain ⟨v', vr, e, ⟨a, vs, rfl, s, ra⟩, q⟩ := r
    cases e
    exact ⟨a, rfl, .inr ⟨vs, SqT.mono l s, g _ (it_tup s ra)⟩⟩
theorem ikRange1_some {ds xs : List D} (h : ikRange1 ds = some xs) : ∃ j : Int, ds = [.int j] ∧ -(2 ^ 62) ≤ j ∧ j < 2 ^ 62 ∧ xs = rangeD 0 j.toNat := by
  unfold ikRange1 at h
  split at h
  · split at h
    · rename_i j hj
      exact ⟨_, rfl, by omega, by omega, (Option.some.inj h).symm⟩
    · cases h
  · cases h
theorem ikRange2_some {ds xs : List D} (h : ikRange2 ds = some xs) : ∃ i j : Int, ds = [.int i, .int j] ∧ (-(2 ^ 62) ≤ i ∧ i < 2 ^ 62 ∧ -(2 ^ 62) ≤ j ∧ j < 2 ^ 62) ∧ xs = rangeD i (j - i).toNat := by
  unfold ikRange2 at h
  split at h
  · split at h
    · rename_i hj
      exact ⟨_, _, rfl, by omega, (Option.some.inj h).symm⟩
    · cases h
  · cases h
theorem ikEnum_some {ds xs : List D} (h : ikEnum ds = some xs) : ∃ ys, ds = [.lst ys] ∧ xs = enumD 0 ys := by
  unfold ikEnum at h
  split at h
  · exact ⟨_, rfl, (Option.some.inj h).symm⟩
  · cases h
theorem ikZip_some {ds xs : List D} (h : ikZip ds = some xs) : ∃ ys zs, (ds = [.lst ys, .lst zs] ∨ ds = [.tup ys, .tup zs]) ∧ xs = zipD ys zs := by
  unfold ikZip at h
  split at h
  · exact ⟨_, _, .inl rfl, (Option.some.inj h).symm⟩
  · exact ⟨_, _, .inr rfl, (Option.some.inj h).symm⟩
  · cases h
theorem si_range1 (hg : Gl X "range") (hm : X.mg "range" = none) (ha : PA X [a] (tFs X.K XC C W [A])) (hs : starEach [a] X.env = [(false, eval a X.env)] := by rfl) : PI X tg (.Call (.Name "range" p) [a] [] pos) (tIt X.K XC C W ikRange1 [A]) := (pi_range1 hg hm ha hs).imp' fun σ H R h => by
  refine tIt_bind h fun F1 H1 ds xs vs hx l r g => ?_
  obtain ⟨j, rfl, h1, h2, rfl⟩ := ikRange1_some hx
  obtain ⟨v, vr, rfl, q1, q2⟩ := r
  cases (show vr = [] from q2)
  cases (show v = _ from q1)
  exact ⟨j, rfl, h1, h2, g _ it_range⟩
theorem si_range2 (hg : Gl X "range") (hm : X.mg "range" = none) (ha : PA X [a, b] (tFs X.K XC C W [A, B])) (hs : starEach [a, b] X.env = [(false, eval a X.env), (false, eval b X.env)] := by rfl) (hs2 : starEach [b] X.env = [(false, eval b X.env)] := by rfl) :
    PI X tg (.Call (.Name "range" p) [a, b] [] pos) (tIt X.K XC C W ikRange2 [A, B]) := (pi_range2 hg hm ha hs hs2).imp' fun σ H R h => by
  refine tIt_bind h fun F1 H1 ds xs vs hx l r g => ?_
  obtain ⟨i, j, rfl, h1, rfl⟩ := ikRange2_some hx
  obtain ⟨v, vr, rfl, q1, w, wr, rfl, q2, q3⟩ := r
  cases (show wr = [] from q3)
  cases (show v = _ from q1)
  cases (show w = _ from q2)
  exact ⟨i, j, rfl, h1, g _ it_range⟩
theorem si_enum {elts : List Expr} {kk : Nat} {tpos : Pos} (hg : Gl X "enumerate") (hm : X.mg "enumerate" = none) (ha : PA X [a] (tFs X.K XC C W [A])) (hs : starEach [a] X.env = [(false, eval a X.env)] := by rfl) : PI X (.Tuple elts kk tpos) (.Call (.Name "enumerate" p) [a] [] pos) (tIt X.K XC C W ikEnum [A]) := (pi_enum hg hm ha hs).imp' fun σ H R h => by
  refine tIt_bind h fun F1 H1 ds xs vs hx l r g => ?_
  obtain ⟨ys, rfl, rfl⟩ := ikEnum_some hx
  obtain ⟨v, vr, rfl, q1, q2⟩ := r
  cases (show vr = [] from q2)
  obtain ⟨a, vs, rfl, s, ra⟩ := q1
  exact ⟨a, vs, rfl, SqL.of (l _ _ s), g _ (it_enum (SqL.of s) ra)⟩
theorem si_zip {elts : List Expr} {kk : Nat} {tpos : Pos} (hg : Gl X "zip") (hm : X.mg "zip" = none) (ha : PA X [a, b] (tFs X.K XC C W [A, B])) (hs : starEach [a, b] X.env = (false, eval a X.env) :: starEach [b] X.env := by rfl) (hpl : (backTo pos (starEach [b] X.env)).any (·.1) = false := by rfl) :
    PI X (.Tuple elts kk tpos) (.Call (.Name "zip" p) [a, b] [] pos) (tIt X.K XC C W ikZip [A, B]) := (RZ.pi_zipA hg hm ha hs hpl).imp' fun σ H R h => by
  refine tIt_bind h fun F1 H1 ds xs vs hx l r g => ?_
  obtain ⟨ys, zs, h1 | h1, rfl⟩ := ikZip_some hx
  · subst h1
    obtain ⟨v, vr, rfl, ⟨a, us, rfl, s, ra⟩, w, wr, rfl, ⟨b, ws, rfl, s', rb⟩, q3⟩ := r
    cases (show wr = [] from q3)
    exact ⟨a, b, us, ws, rfl, .inl ⟨SqL.of (l _ _ s), SqL.of (l _ _ s'), g _ (it_zip (SqL.of s) (SqL.of s') ra rb)⟩⟩
  · subst h1
    obtain ⟨v, vr, rfl, ⟨a, us, rfl, s, ra⟩, w, wr, rfl, ⟨b, ws, rfl, s', rb⟩, q3⟩ := r
    cases (show wr = [] from q3)
    exact ⟨a, b, us, ws, rfl, .inr ⟨SqT.mono l s, SqT.mono l s', g _ (it_zipT s s' ra rb)⟩⟩
end
end PI

end

section
set_option maxRecDepth 100000
set_option maxHeartbeats 1000000
/-! Pi11: comprehensions. -/
namespace PI
open PySem PySem.Spec PyProof.Rows L2

def hidE (e : En) (own : List Nat) : En := (List.range e.length).map fun i => if i ∈ own then (e[i]?).getD .un else .un
theorem hidE_length (e : En) (own : List Nat) : (hidE e own).length = e.length := by simp [hidE]
theorem hidE_get {e : En} {own : List Nat} {i : Nat} {r : Ent} (h : (hidE e own)[i]? = some r) (hr : r ≠ .un) : i ∈ own ∧ e[i]? = some r := by
  have hi : i < e.length := by have := (List.getElem?_eq_some_iff.mp h).1; simpa [hidE] using this
  simp only [hidE, List.getElem?_map, List.getElem?_range hi, Option.map_some, Option.some.injEq] at h
  split at h
  · rename_i hm
    refine ⟨hm, ?_⟩
    rw [List.getElem?_eq_getElem hi] at h ⊢
    simp at h; rw [h]
  · exact (hr h.symm).elim
theorem hidE_in {e : En} {own : List Nat} {i : Nat} (hm : i ∈ own) {r : Ent} (h : e[i]? = some r) : (hidE e own)[i]? = some r := by
  have hi : i < e.length := (List.getElem?_eq_some_iff.mp h).1
  simp [hidE, hi, hm]
  rw [List.getElem?_eq_getElem hi] at h
  exact Option.some.inj h
theorem wipe_get {σ : L2.St} {i : Nat} : ∀ {vs : List Nat}, i ∉ vs → (wipe σ vs)[i]? = σ[i]?
  | [], _ => rfl
  | v :: vs, h => by
    simp only [List.mem_cons, not_or] at h
    unfold wipe
    rw [List.getElem?_set_ne (Ne.symm h.1)]
    exact wipe_get h.2
theorem wipe_in {σ : L2.St} {i : Nat} (hi : i < σ.length) : ∀ {vs : List Nat}, i ∈ vs → (wipe σ vs)[i]? = some none
  | [], h => by simp at h
  | v :: vs, h => by
    unfold wipe
    by_cases e : v = i
    · subst e; rw [List.getElem?_set_self (by rw [wipe_length]; exact hi)]
    · rw [List.getElem?_set_ne e]
      exact wipe_in hi (by rcases List.mem_cons.mp h with z | z; exact (e z.symm).elim; exact z)
theorem wipe_congr {σ σ2 : L2.St} {own : List Nat} (hl : σ2.length = σ.length) (h : ∀ i, i ∉ own → σ2[i]? = (wipe σ own)[i]?) : wipe σ2 own = wipe σ own := by
  apply List.ext_getElem?
  intro i
  by_cases hm : i ∈ own
  · by_cases hi : i < σ.length
    · rw [wipe_in hi hm, wipe_in (by omega) hm]
    · rw [List.getElem?_eq_none (by rw [wipe_length]; omega), List.getElem?_eq_none (by rw [wipe_length]; omega)]
  · rw [wipe_get hm]; exact h i hm
theorem wipeE_get' {e : En} {i : Nat} : ∀ {is : List Nat}, i ∉ is → (wipeE e is)[i]? = e[i]?
  | [], _ => rfl
  | v :: vs, h => by
    simp only [List.mem_cons, not_or] at h
    unfold wipeE
    rw [List.getElem?_set_ne (Ne.symm h.1)]
    exact wipeE_get' h.2
theorem backE_length (e0 e : En) : ∀ is : List Nat, (backE e0 e is).length = e.length
  | [] => rfl
  | i :: is => by unfold backE; rw [List.length_set, backE_length]
theorem backE_get {e0 e : En} {i : Nat} {r : Ent} (hr : r ≠ .un) : ∀ {is : List Nat}, (backE e0 e is)[i]? = some r → (i ∈ is ∧ e0[i]? = some r) ∨ (i ∉ is ∧ e[i]? = some r)
  | [], h => .inr ⟨by simp, h⟩
  | k :: is, h => by
    unfold backE at h
    rcases getElem?_set_cases h with ⟨rfl, h2, _⟩ | ⟨ne, h⟩
    · refine .inl ⟨by simp, ?_⟩
      cases q : e0[i]? with
      | none => rw [q] at h2; exact (hr h2).elim
      | some u => rw [q] at h2; simp at h2; rw [h2]
    · rcases backE_get hr h with ⟨h1, h2⟩ | ⟨h1, h2⟩
      · exact .inl ⟨List.mem_cons_of_mem _ h1, h2⟩
      · exact .inr ⟨by simp only [List.mem_cons, not_or]; exact ⟨ne, h1⟩, h2⟩
theorem compLoop_noex {tg : Tg} {own : List Nat} {test : En → Res Bool} {elt : En → Res D} : ∀ {xs acc : List D} {e e' : En} {c : Str} {ps : List D}, compLoop tg own test elt xs acc e ≠ .ex c ps e'
  | [], acc, e, e', c, ps, h => by unfold compLoop at h; cases h
  | x :: xs, acc, e, e', c, ps, h => by
    unfold compLoop at h
    split at h
    · cases h
    · split at h
      · split at h
        · split at h
          · exact compLoop_noex h
          · cases h
        · cases h
      · exact compLoop_noex h
      · cases h
section
variable {K : PySem.W.Frag} {F H : Hp} {own : List Nat}
/-- the state ahead of the loop -/
theorem comp_start {env : En} {σ : L2.St} {o : Ent} {D : Addr} (S : St K F (env ++ [o]) (σ ++ [some (.ref D)]) H) (hl : env.length = σ.length) :
    St K F (wipeE env own ++ ([o] ++ hidE env own)) (wipe σ own ++ ([some (.ref D)] ++ σ)) H ∧ Ext F (env ++ [o]) (σ ++ [some (.ref D)]) H F (wipeE env own ++ ([o] ++ hidE env own)) (wipe σ own ++ ([some (.ref D)] ++ σ)) H := by
  refine S.rel (fun j k => (j < env.length ∧ k = j ∧ j ∉ own) ∨ (j = env.length ∧ k = j) ∨ (env.length < j ∧ k = j - env.length - 1 ∧ k < env.length ∧ k ∈ own)) (by simp [wipeE_length, wipe_length, hidE_length, hl]) ?_ ?_
  · rintro i j k (⟨h1, h0, h2⟩ | ⟨h1, h0⟩ | ⟨h1, h2, h3, h4⟩) (⟨g1, g0, g3⟩ | ⟨g1, g0⟩ | ⟨g1, g2, g3, g4⟩)
    · omega
    · omega
    · exact (h2 (h0 ▸ g4)).elim
    · omega
    · omega
    · omega
    · exact (g3 (g0 ▸ h4)).elim
    · omega
    · omega
  · intro i r e hr
    by_cases hi : i < env.length
    · rw [List.getElem?_append_left (by rw [wipeE_length]; exact hi)] at e
      obtain ⟨h1, h2⟩ := wipeE_get hr e
      refine ⟨i, .inl ⟨hi, rfl, h2⟩, by rw [List.getElem?_append_left hi]; exact h1, fun v ev_ => ?_⟩
      rw [List.getElem?_append_left (by omega)] at ev_
      rw [List.getElem?_append_left (by rw [wipe_length]; omega), wipe_get h2]
      exact ev_
    · rw [List.getElem?_append_right (by rw [wipeE_length]; omega), wipeE_length] at e
      by_cases hj : i = env.length
      · subst hj
        simp at e
        subst e
        refine ⟨env.length, .inr (.inl ⟨rfl, rfl⟩), by simp, fun v ev_ => ?_⟩
        rw [hl] at ev_ ⊢
        simp at ev_
        rw [List.getElem?_append_right (by rw [wipe_length]; omega), wipe_length]
        simp [ev_]
      · rw [List.getElem?_append_right (by simp; omega)] at e
        simp only [List.length_cons, List.length_nil] at e
        obtain ⟨h1, h2⟩ := hidE_get e hr
        have h3 := (List.getElem?_eq_some_iff.mp h2).1
        refine ⟨i - env.length - 1, .inr (.inr ⟨by omega, rfl, h3, h1⟩), by rw [List.getElem?_append_left h3]; exact h2, fun v ev_ => ?_⟩
        rw [List.getElem?_append_left (by omega)] at ev_
        rw [List.getElem?_append_right (by rw [wipe_length]; omega), wipe_length, List.getElem?_append_right (by simp; omega)]
        simp only [List.length_cons, List.length_nil]
        rw [← hl]; exact ev_
/-- behind a turn -/
theorem comp_turn {e pe hid : En} {σ2 σ : L2.St} {pv : L2.St} {o : Ent} {D : Addr} (S : St K F ((e ++ pe) ++ ([o] ++ hid)) ((σ2 ++ pv) ++ ([some (.ref D)] ++ σ)) H) (hl : e.length = σ2.length) (hp : pe.length = pv.length) :
    St K F (wipeE e own ++ ([o] ++ hid)) (wipe σ2 own ++ ([some (.ref D)] ++ σ)) H ∧ Ext F ((e ++ pe) ++ ([o] ++ hid)) ((σ2 ++ pv) ++ ([some (.ref D)] ++ σ)) H F (wipeE e own ++ ([o] ++ hid)) (wipe σ2 own ++ ([some (.ref D)] ++ σ)) H := by
  have hs := S.len
  simp only [List.length_append] at hs
  refine S.rel (fun j k => (j < e.length ∧ k = j ∧ j ∉ own) ∨ (e.length ≤ j ∧ k = j + pe.length)) (by simp only [List.length_append, wipeE_length, wipe_length]; omega) ?_ ?_
  · rintro i j k (⟨h1, h2, h3⟩ | ⟨h1, h2⟩) (⟨g1, g2, g3⟩ | ⟨g1, g2⟩) <;> omega
  · intro i r er hr
    by_cases hi : i < e.length
    · rw [List.getElem?_append_left (by rw [wipeE_length]; exact hi)] at er
      obtain ⟨h1, h2⟩ := wipeE_get hr er
      refine ⟨i, .inl ⟨hi, rfl, h2⟩, by rw [List.getElem?_append_left (by simp; omega), List.getElem?_append_left hi]; exact h1, fun v ev_ => ?_⟩
      rw [List.getElem?_append_left (by simp; omega), List.getElem?_append_left (by omega)] at ev_
      rw [List.getElem?_append_left (by rw [wipe_length]; omega), wipe_get h2]
      exact ev_
    · rw [List.getElem?_append_right (by rw [wipeE_length]; omega), wipeE_length] at er
      refine ⟨i + pe.length, .inr ⟨by omega, rfl⟩, ?_, fun v ev_ => ?_⟩
      · rw [List.getElem?_append_right (by simp; omega)]
        have : i + pe.length - (e ++ pe).length = i - e.length := by simp; omega
        rw [this]; exact er
      · rw [List.getElem?_append_right (by simp; omega)] at ev_
        have : i + pe.length - (σ2 ++ pv).length = i - e.length := by simp; omega
        rw [this] at ev_
        rw [List.getElem?_append_right (by rw [wipe_length]; omega), wipe_length, ← hl]
        exact ev_
/-- behind the loop -/
theorem comp_end {e env : En} {σ : L2.St} {o : Ent} {D : Addr} (S : St K F (wipeE e own ++ ([o] ++ hidE env own)) (wipe σ own ++ ([some (.ref D)] ++ σ)) H) (he : e.length = env.length) (hl : env.length = σ.length) :
    St K F (backE env e own ++ [o]) (σ ++ [some (.ref D)]) H ∧ Ext F (wipeE e own ++ ([o] ++ hidE env own)) (wipe σ own ++ ([some (.ref D)] ++ σ)) H F (backE env e own ++ [o]) (σ ++ [some (.ref D)]) H := by
  refine S.rel (fun j k => (j < env.length ∧ k = j ∧ j ∉ own) ∨ (j = env.length ∧ k = j) ∨ (j < env.length ∧ k = env.length + 1 + j ∧ j ∈ own)) (by simp [backE_length, he, hl]) ?_ ?_
  · rintro i j k (⟨h1, h2, h3⟩ | ⟨h1, h2⟩ | ⟨h1, h2, h3⟩) (⟨g1, g2, g3⟩ | ⟨g1, g2⟩ | ⟨g1, g2, g3⟩) <;> omega
  · intro i r er hr
    by_cases hi : i < env.length
    · rw [List.getElem?_append_left (by rw [backE_length]; omega)] at er
      rcases backE_get hr er with ⟨h1, h2⟩ | ⟨h1, h2⟩
      · refine ⟨env.length + 1 + i, .inr (.inr ⟨hi, rfl, h1⟩), ?_, fun v ev_ => ?_⟩
        · rw [List.getElem?_append_right (by rw [wipeE_length]; omega), wipeE_length, List.getElem?_append_right (by simp; omega)]
          have : env.length + 1 + i - e.length - [o].length = i := by simp; omega
          rw [this]; exact hidE_in h1 h2
        · rw [List.getElem?_append_right (by rw [wipe_length]; omega), wipe_length, List.getElem?_append_right (by simp; omega)] at ev_
          have : env.length + 1 + i - σ.length - [some (V.ref D)].length = i := by simp; omega
          rw [this] at ev_
          rw [List.getElem?_append_left (by omega)]; exact ev_
      · refine ⟨i, .inl ⟨hi, rfl, h1⟩, ?_, fun v ev_ => ?_⟩
        · rw [List.getElem?_append_left (by rw [wipeE_length]; omega), wipeE_get' h1]; exact h2
        · rw [List.getElem?_append_left (by rw [wipe_length]; omega), wipe_get h1] at ev_
          rw [List.getElem?_append_left (by omega)]; exact ev_
    · have hb := (List.getElem?_eq_some_iff.mp er).1
      simp [backE_length, he] at hb
      have : i = env.length := by omega
      subst this
      rw [List.getElem?_append_right (by rw [backE_length]; omega), backE_length, he] at er
      simp at er; subst er
      refine ⟨env.length, .inr (.inl ⟨rfl, rfl⟩), ?_, fun v ev_ => ?_⟩
      · rw [List.getElem?_append_right (by rw [wipeE_length]; omega), wipeE_length, he]; simp
      · rw [List.getElem?_append_right (by rw [wipe_length]; omega), wipe_length, hl] at ev_
        rw [hl]; simp at ev_ ⊢; exact ev_
end
end PI

end

section
set_option maxRecDepth 100000
set_option maxHeartbeats 1000000
/-! Pi12: the comprehension's rule. -/
namespace PI
open PySem PySem.Spec PyProof.Rows L2
abbrev W0 : WX := fun _ _ _ _ => False
section
variable {K : PySem.W.Frag} {XC : Str → Value → Prop} {C : Calls} {W : WX}
theorem compLoop_step {tg : Tg} {own : List Nat} {test : En → Res Bool} {elt : En → Res D} {d : D} {xs acc r : List D} {e e' : En} (h : compLoop tg own test elt (d :: xs) acc e = .ok r e') :
    ∃ e1, Tg.asg [] tg d (wipeE e own) = some e1 ∧ ((∃ e2, test e1 = .ok false e2 ∧ compLoop tg own test elt xs acc e2 = .ok r e') ∨
      ∃ e2 dd e3, test e1 = .ok true e2 ∧ elt e2 = .ok dd e3 ∧ acc.length < sizeLine ∧ compLoop tg own test elt xs (acc ++ [dd]) e3 = .ok r e') := by
  unfold compLoop at h
  split at h
  · cases h
  · rename_i e1 q1
    refine ⟨e1, q1, ?_⟩
    split at h
    · rename_i e2 q2
      split at h
      · rename_i dd e3 q3
        split at h
        · rename_i q4
          exact .inr ⟨e2, dd, e3, q2, q3, q4, h⟩
        · cases h
      · cases h
    · rename_i e2 q2
      exact .inl ⟨e2, q2, h⟩
    · cases h
/-- what the turns of a comprehension bear -/
structure CompI (K : PySem.W.Frag) (tg : Tg) (own : List Nat) (test : En → Res Bool) (elt : En → Res D) (xs : List D) (F : Hp) (env : En) (σ : L2.St) (H : Hp) (F1 : Hp) (env1 : En) (D : Addr) (r : List PI.D) (e' : En) (i : Nat) (H2 : Hp) : Prop where
  ex : ∃ F2 e2 acc, i ≤ xs.length ∧ FLe F1 F2 ∧ e2.length = env1.length ∧ St K F2 (wipeE e2 own ++ ([.ow (.lst acc)] ++ hidE env1 own)) (wipe σ own ++ ([some (.ref D)] ++ σ)) H2 ∧
    Ext F env σ H F2 (wipeE e2 own ++ ([.ow (.lst acc)] ++ hidE env1 own)) (wipe σ own ++ ([some (.ref D)] ++ σ)) H2 ∧ compLoop tg own test elt (xs.drop i) acc e2 = .ok r e'
theorem t_lc {tg : Tg} {own : List Nat} {ik : List D → Option (List D)} {ies : List E} {cs : List T} {A : E} {σ : L2.St} {H : Hp} {Q : VK} (h : tE K XC C W (.comp own tg ik ies cs A) σ H Q) (ho : ∀ i ∈ tg.slots, i ∈ own) :
    tLc (tIt K XC C W ik ies) (tGt K [] tg) (tTs K XC C W0 cs) (tF K XC C W0 A) own σ H Q := by
  obtain ⟨F, env, S, h⟩ := h
  refine ⟨F, env, S, ?_⟩
  rw [ev] at h
  cases e1 : evs C ies env with
  | no => rw [e1] at h; exact h
  | ex c ps env1 => rw [e1] at h; exact h
  | ok ds env1 =>
    rw [e1] at h
    simp only [Res.bind] at h
    cases e2 : ik ds with
    | none => rw [e2] at h; exact h.elim
    | some xs =>
      rw [e2] at h
      dsimp only at h
      refine ⟨xs, e2, fun F1 H1 J S1 X1 hJ D hD => ?_⟩
      cases e3 : compLoop tg own (evTs C cs) (frozen (ev C A)) xs [] env1 with
      | no => rw [e3] at h; exact h.elim
      | ex c ps env2 => exact (compLoop_noex e3).elim
      | ok r e' =>
        rw [e3] at h
        replace h : ∀ F' H' vs, Post K F env σ H F' (backE env1 e' own) [Ent.ow (.lst r)] vs H' → okR (Ent.ow (.lst r)) σ vs → one Q (Ent.ow (.lst r)) vs H' := h
        have n1 := new_lst (K := K) (F := F1) (H := H1) (p := D) (vs := []) (ds := []) S1.le hD rfl
        obtain ⟨S2, X2⟩ := S1.new n1
        obtain ⟨S3, X3⟩ := comp_start (own := own) S2 S1.len
        let tst := evTs C cs
        let elt := frozen (ev C A)
        refine ⟨fun i m H2 => m = xs.length - i ∧ CompI K tg own (evTs C cs) (frozen (ev C A)) xs F env σ H F1 env1 D r e' i H2, ⟨xs.length, rfl, ⟨F1, env1, [], Nat.zero_le _, FLe.refl, rfl, S3, (X1.trans X2).trans X3, by simpa using e3⟩⟩, ?_⟩
        rintro i m H2 ⟨rfl, F2, e2, acc, hi, l12, le2, S4, X4, eL⟩
        by_cases hlt : i < xs.length
        · obtain ⟨d, hd⟩ : ∃ d, xs[i]? = some d := ⟨xs[i], by simp [hlt]⟩
          obtain ⟨go, yl⟩ := (hJ F2 H2 i l12 S4.le).1 d hd
          refine .inr ⟨go, fun H' => CompI K tg own (evTs C cs) (frozen (ev C A)) xs F env σ H F1 env1 D r e' (i + 1) H', fun H' c => ⟨xs.length - (i + 1), by omega, rfl, c⟩, fun x H3 y => ?_⟩
          obtain ⟨F3, n3⟩ := yl x H3 y
          have dr : xs.drop i = d :: xs.drop (i + 1) := by
            rw [List.drop_eq_getElem_cons hlt]
            rw [List.getElem?_eq_getElem hlt] at hd
            cases hd; rfl
          rw [dr] at eL
          obtain ⟨ea, a1, a2⟩ := compLoop_step eL
          obtain ⟨S5, X5⟩ := S4.new n3
          have lw : (wipeE e2 own).length = (wipe σ own).length := by rw [wipeE_length, wipe_length, le2]; exact S1.len
          have lbig : (wipeE e2 own ++ ([Ent.ow (.lst acc)] ++ hidE env1 own)).length = (wipe σ own ++ ([some (V.ref D)] ++ σ)).length := S4.len
          have S6 : St K F3 (wipeE e2 own ++ ([.ow (.lst acc)] ++ hidE env1 own)) (wipe σ own ++ ([some (.ref D)] ++ σ)) H3 := S5.left lbig
          have X6 := (X4.trans X5).trans (Ext.left lbig)
          have S6l : St K F3 (wipeE e2 own) (wipe σ own) H3 := S6.left lw
          refine ⟨F3, wipeE e2 own, d, ea, S6l, n3.ent, a1, fun σ2 S7 X7 l7 o7 _ => ?_⟩
          have lea : ea.length = env1.length := by rw [Tg.asg_length a1, wipeE_length, le2]
          have hw : wipe σ2 own = wipe σ own := wipe_congr (by rw [l7, wipe_length]) fun j hj => o7 j fun z => hj (ho j z)
          refine ⟨hw, ?_⟩
          have S8 := St.frame S6 lw S7 X7
          have X8 := X6.trans (Ext.frame (pe := [.ow (.lst acc)] ++ hidE env1 own) (ps := [some (.ref D)] ++ σ) lw S7.len X7)
          -- the tests
          rcases a2 with ⟨eb, t1, t2⟩ | ⟨eb, dd, ec, t1, t2, t3, t4⟩
          · refine ⟨F3, ea, S7, ?_⟩
            rw [t1]
            intro F4 H4 vs P _
            have hvs : vs = [] := List.length_eq_zero_iff.mp (by have := P.pl; simpa using this.symm)
            subst hvs
            dsimp only
            rw [if_neg (by decide)]
            have S9 := St.frame S8 S7.len P.base P.bext
            have X9 := X8.trans (Ext.frame (pe := [.ow (.lst acc)] ++ hidE env1 own) (ps := [some (.ref D)] ++ σ) S7.len P.len P.bext)
            have S9' : St K F4 ((eb ++ []) ++ ([.ow (.lst acc)] ++ hidE env1 own)) ((σ2 ++ []) ++ ([some (.ref D)] ++ σ)) H4 := by simpa using S9
            obtain ⟨Sa, Xa⟩ := comp_turn (own := own) S9' P.len rfl
            rw [hw] at Sa Xa
            refine ⟨F4, eb, acc, by omega, l12.trans (n3.le.trans P.ext.le), by have := P.len; have := S7.len; omega, Sa, X9.trans (by simpa using Xa), t2⟩
          · refine ⟨F3, ea, S7, ?_⟩
            rw [t1]
            intro F4 H4 vs P _
            have hvs : vs = [] := List.length_eq_zero_iff.mp (by have := P.pl; simpa using this.symm)
            subst hvs
            dsimp only
            rw [if_pos rfl]
            have S9 := St.frame S8 S7.len P.base P.bext
            have X9 := X8.trans (Ext.frame (pe := [.ow (.lst acc)] ++ hidE env1 own) (ps := [some (.ref D)] ++ σ) S7.len P.len P.bext)
            refine ⟨F4, eb, P.base, ?_⟩
            rw [t2]
            intro F5 H5 ws P5 _ y hy
            subst hy
            have Sa := St.frame S9 P.len P5.st P5.ext
            have lp : (ec ++ [Ent.fz dd]).length = (σ2 ++ [y].map some).length := by have := P5.len; simp [this]
            have Xa := X9.trans (Ext.frame (pe := [.ow (.lst acc)] ++ hidE env1 own) (ps := [some (.ref D)] ++ σ) P.len lp P5.ext)
            have ix : ((ec ++ [Ent.fz dd]) ++ ([Ent.ow (PI.D.lst acc)] ++ hidE env1 own))[(ec ++ [Ent.fz dd]).length]? = some (Ent.ow (PI.D.lst acc)) := by
              rw [List.getElem?_append_right (Nat.le_refl _)]; simp
            have sx : ((σ2 ++ [y].map some) ++ ([some (V.ref D)] ++ σ))[(ec ++ [Ent.fz dd]).length]? = some (some (.ref D)) := by
              rw [lp, List.getElem?_append_right (Nat.le_refl _)]; simp
            obtain ⟨v, q1, a, rfl, q2, q3⟩ := Sa.ent _ _ ix (by simp)
            rw [sx] at q1
            cases q1
            obtain ⟨accV, q4, q5⟩ := q3
            refine ⟨accV, q4, by rw [q5.length]; exact t3, ?_⟩
            have ry : Rep K F5 dd y := P5.st.lastEnt P5.len (by simp)
            obtain ⟨Sb, Xb⟩ := Sa.write (ds' := acc ++ [dd]) (vs' := accV ++ [y]) ix sx (q5.append ⟨y, [], rfl, ry, rfl⟩)
            have es : ((ec ++ [Ent.fz dd]) ++ ([Ent.ow (PI.D.lst acc)] ++ hidE env1 own)).set (ec ++ [Ent.fz dd]).length (.ow (.lst (acc ++ [dd]))) = (ec ++ [Ent.fz dd]) ++ ([.ow (.lst (acc ++ [dd]))] ++ hidE env1 own) := by
              rw [List.set_append_right _ _ (Nat.le_refl _)]; simp
            rw [es] at Sb Xb
            obtain ⟨Sc, Xc⟩ := comp_turn (own := own) Sb P5.len (by simp)
            rw [hw] at Sc Xc
            exact ⟨F5, ec, acc ++ [dd], by omega, l12.trans (n3.le.trans (P.ext.le.trans P5.ext.le)), by have := P5.len; have := P.len; have := S7.len; omega, Sc, (Xa.trans Xb).trans Xc, t4⟩
        · have ei : i = xs.length := by omega
          subst ei
          rw [List.drop_length] at eL
          unfold compLoop at eL
          cases eL
          obtain ⟨S5, X5⟩ := comp_end S4 le2 S1.len
          exact .inl ⟨(hJ F2 H2 _ l12 S4.le).2 (Nat.le_refl _), h F2 H2 [.ref D] ⟨by simpa using S5, by simpa using X4.trans X5, rfl⟩ ⟨by simp, _, rfl⟩ _ rfl⟩
end
section
variable {X : Cx} {XC : Str → Value → Prop} {C : Calls} {W : WX}
theorem sts_nil : PTs X [] (tTs X.K XC C W []) := pts_nil.imp' fun σ H Q h => by
  obtain ⟨F, env, S, h⟩ := h
  rw [show evTs C [] env = .ok true env from by unfold evTs; rfl] at h
  exact h F H [] (Post.nil S) trivial
theorem sts_one {c : Expr} {TA : T} (hc : PT X c (tT X.K XC C W TA)) : PTs X [c] (tTs X.K XC C W [TA]) := (pts_one hc).imp' fun σ H Q h => by
  have e : evTs C [TA] = evT C TA := by
    funext e
    simp only [evTs]
    cases evT C TA e with
    | ok b e1 => cases b <;> rfl
    | ex => rfl
    | no => rfl
  unfold tTs at h
  rw [e] at h
  exact h
theorem se_comp {elt tgE iter : Expr} {ifs : List Expr} {scope : Scope} {own : List (Str × Nat)} {pos : Pos} {tg : Tg} {ik : List D → Option (List D)} {ies : List E} {cs : List T} {A : E} (hc : X.calm = true) (hN : X.N.Nodup) (hi : PI X tgE iter (tIt X.K XC C W ik ies)) (ok : BlkOk X.N X.env.scope scope own)
    (hg : ∀ (s : Shared) (H : Hp) (Ca : Addr) (cl : List (Str × Addr)) (fp : List Addr), PG (X.blk s H scope (compEnvC scope cl Ca X.env) fp) tgE (tGt X.K [] tg)) (ht : ∀ (s : Shared) (H : Hp) (Ca : Addr) (cl : List (Str × Addr)) (fp : List Addr), PTs (X.blk s H scope (compEnvC scope cl Ca X.env) fp) ifs (tTs X.K XC C W0 cs))
    (he : ∀ (s : Shared) (H : Hp) (Ca : Addr) (cl : List (Str × Addr)) (fp : List Addr), PE (X.blk s H scope (compEnvC scope cl Ca X.env) fp) elt (tE X.K XC C W0 A)) (ho : ∀ i ∈ tg.slots, i ∈ own.map (·.2)) (hs : ∀ x, foldedSetIterable iter X.env x = pure x := by intro _; rfl) :
    PE X (.ListComp elt [⟨tgE, iter, ifs, 0⟩] scope pos) (tE X.K XC C W (.comp (own.map (·.2)) tg ik ies cs A)) :=
  (pe_lc hc hN hi ok hg ht (fun s H Ca cl fp => se_f (he s H Ca cl fp)) hs).imp' fun _ _ _ h => t_lc h ho
end
end PI

end

section
set_option maxRecDepth 100000
set_option maxHeartbeats 1000000
/-! Pi13: statements. -/
namespace PI
open PySem PySem.Spec PyProof.Rows L2
section
variable (K : PySem.W.Frag) (XC : Str → Value → Prop) (C : Calls) (W : WX) (pw : List Nat)
def SamePw (σ σ' : L2.St) : Prop := ∀ i ∈ pw, σ'[i]? = σ[i]?
def srP (D : Ends) (F : Hp) (env : En) (σ : L2.St) (H : Hp) : SR → Prop
  | .nx e => ∀ F' H' σ', St K F' e σ' H' → Ext F env σ H F' e σ' H' → SamePw pw σ σ' → D.nx σ' H'
  | .bk e => ∀ F' H' σ', St K F' e σ' H' → Ext F env σ H F' e σ' H' → SamePw pw σ σ' → D.bk σ' H'
  | .ct e => ∀ F' H' σ', St K F' e σ' H' → Ext F env σ H F' e σ' H' → SamePw pw σ σ' → D.ct σ' H'
  | .rt r e => r ≠ .un → ∀ F' H' σ' v, St K F' (e ++ [r]) (σ' ++ [some v]) H' → Ext F env σ H F' (e ++ [r]) (σ' ++ [some v]) H' → e.length = σ'.length → SamePw pw σ σ' → D.rt v H'
  | .ex c ps e => ∀ F' H' σ' cls dx, St K F' e σ' H' → Ext F env σ H F' e σ' H' → SamePw pw σ σ' → ExOk K XC F' H' c ps cls dx → W cls dx σ' H'
  | .no => False
def tS (s : S) : TS := fun D σ H => ∃ F env, St K F env σ H ∧ srP K XC W pw D F env σ H (exec C pw s env)
def tSs (ss : List S) : TS := fun D σ H => ∃ F env, St K F env σ H ∧ srP K XC W pw D F env σ H (execs C pw ss env)
end
section
variable {X : Cx} {XC : Str → Value → Prop} {C : Calls} {W : WX} {pw : List Nat} {K : PySem.W.Frag}
theorem _root_.L2.PS.imp' {st : Stmt} {t t' : TS} (h : PS X st t) (i : ∀ D σ H, t' D σ H → t D σ H) : PS X st t' := ⟨fun pins s σ H D I q => h.run pins s σ H D I (i _ _ _ q)⟩
theorem _root_.L2.PSs.imp' {st : List Stmt} {t t' : TS} (h : PSs X st t) (i : ∀ D σ H, t' D σ H → t D σ H) : PSs X st t' := ⟨fun pins s σ H D I q => h.run pins s σ H D I (i _ _ _ q)⟩
theorem SamePw.refl {σ : L2.St} : SamePw pw σ σ := fun _ _ => rfl
theorem SamePw.trans {a b c : L2.St} (h : SamePw pw a b) (k : SamePw pw b c) : SamePw pw a c := fun i hi => (k i hi).trans (h i hi)
/-- the rest of a run, from a later state -/
theorem srP.behind {D : Ends} {F F1 : Hp} {env env1 : En} {σ σ1 : L2.St} {H H1 : Hp} {r : SR} (x : Ext F env σ H F1 env1 σ1 H1) (p : SamePw pw σ σ1) (h : srP K XC W pw D F env σ H r) : srP K XC W pw D F1 env1 σ1 H1 r := by
  cases r with
  | nx e => exact fun F' H' σ' S y q => h F' H' σ' S (x.trans y) (p.trans q)
  | bk e => exact fun F' H' σ' S y q => h F' H' σ' S (x.trans y) (p.trans q)
  | ct e => exact fun F' H' σ' S y q => h F' H' σ' S (x.trans y) (p.trans q)
  | rt r e => exact fun hr F' H' σ' v S y l q => h hr F' H' σ' v S (x.trans y) l (p.trans q)
  | ex c ps e => exact fun F' H' σ' cls dx S y q z => h F' H' σ' cls dx S (x.trans y) (p.trans q) z
  | no => exact h
/-- an evaluation, then the rest -/
theorem tM_sr {α : Type} {m : En → Res α} {f : α → En → SR} {pe : α → En} {ok : α → L2.St → List V → Prop} {D : Ends} {σ : L2.St} {H : Hp} {Q1 : α → List V → Hp → Prop} {F : Hp} {env : En} (S : St K F env σ H) (h : srP K XC W pw D F env σ H ((m env).sr f))
    (g : ∀ (F1 : Hp) (env1 : En) (x : α) (vs : List V) (H1 : Hp), m env = .ok x env1 → Post K F env σ H F1 env1 (pe x) vs H1 → ok x σ vs → srP K XC W pw D F env σ H (f x env1) → Q1 x vs H1) : tM K XC W m pe ok σ H Q1 := by
  refine ⟨F, env, S, ?_⟩
  cases e : m env with
  | ok x env1 =>
    rw [e] at h
    exact fun F1 H1 vs P o => g F1 env1 x vs H1 e P o h
  | ex c ps env1 =>
    rw [e] at h
    exact fun F' H' cls dx S' x z => h F' H' σ cls dx S' x SamePw.refl z
  | no => rw [e] at h; exact h
/-! ### blocks -/
theorem ss_nil : PSs X [] (tSs X.K XC C W pw []) := pss_nil.imp' fun D σ H h => by
  obtain ⟨F, env, S, h⟩ := h
  rw [show execs C pw [] env = .nx env from by unfold execs; rfl] at h
  exact h F H σ S Ext.refl SamePw.refl
theorem ss_cons {st : Stmt} {rest : List Stmt} {s : S} {ss : List S} (h1 : PS X st (tS X.K XC C W pw s)) (h2 : PSs X rest (tSs X.K XC C W pw ss)) : PSs X (st :: rest) (tSs X.K XC C W pw (s :: ss)) := (pss_cons h1 h2).imp' fun D σ H h => by
  obtain ⟨F, env, S, h⟩ := h
  refine ⟨F, env, S, ?_⟩
  unfold execs at h
  cases e : exec C pw s env with
  | nx e1 =>
    rw [e] at h
    exact fun F' H' σ' S' x p => ⟨F', e1, S', h.behind x p⟩
  | bk e1 => rw [e] at h; exact h
  | ct e1 => rw [e] at h; exact h
  | rt r e1 => rw [e] at h; exact h
  | ex c ps e1 => rw [e] at h; exact h
  | no => rw [e] at h; exact h
/-! ### small statements -/
theorem ss_pass {pos : Pos} : PS X (.Pass pos) (tS X.K XC C W pw .pass) := ps_pass.imp' fun D σ H h => by
  obtain ⟨F, env, S, h⟩ := h
  rw [exec] at h
  exact h F H σ S Ext.refl SamePw.refl
theorem ss_brk {pos : Pos} : PS X (.Break pos) (tS X.K XC C W pw .brk) := ps_break.imp' fun D σ H h => by
  obtain ⟨F, env, S, h⟩ := h
  rw [exec] at h
  exact h F H σ S Ext.refl SamePw.refl
theorem ss_cont {pos : Pos} : PS X (.Continue pos) (tS X.K XC C W pw .cont) := ps_continue.imp' fun D σ H h => by
  obtain ⟨F, env, S, h⟩ := h
  rw [exec] at h
  exact h F H σ S Ext.refl SamePw.refl
theorem ss_retN {pos : Pos} : PS X (.Return none pos) (tS X.K XC C W pw .retN) := ps_retN.imp' fun D σ H h => by
  obtain ⟨F, env, S, h⟩ := h
  rw [exec] at h
  obtain ⟨S1, x1⟩ := S.new (new_scal (d := .non) (v := .non) S.le (by unfold Rep; rfl))
  exact h (by simp) F H σ .non S1 x1 S.len SamePw.refl
variable {e a b c : Expr} {A B : E} {pos : Pos}
theorem ss_expr (he : PE X e (tE X.K XC C W A)) (hs : swapsWith e none pos.line X.env = pure false := by rfl) : PS X (.Expr e pos) (tS X.K XC C W pw (.expr A)) := (ps_expr he hs).imp' fun D σ H h => by
  obtain ⟨F, env, S, h⟩ := h
  rw [exec] at h
  refine tM_sr S h fun F1 env1 x vs H1 em P o g v ev_ => ?_
  exact g F1 H1 σ P.base P.bext SamePw.refl
theorem ss_ret (he : PE X e (tE X.K XC C W A)) (hA : isVar A = none := by rfl) : PS X (.Return (some e) pos) (tS X.K XC C W pw (.ret A)) := (ps_ret he).imp' fun D σ H h => by
  obtain ⟨F, env, S, h⟩ := h
  rw [exec, hA] at h
  refine tM_sr S h fun F1 env1 x vs H1 em P o g v ev_ => ?_
  obtain ⟨hr, v', rfl⟩ := o
  cases ev_
  exact g hr F1 H1 σ v P.st P.ext P.len SamePw.refl
theorem ss_retV {i : Nat} (he : PE X e (tVar i)) : PS X (.Return (some e) pos) (tS X.K XC C W pw (.ret (.var i))) := (ps_ret he).imp' fun D σ H h => by
  obtain ⟨F, env, S, h⟩ := h
  rw [exec, show isVar (.var i) = some i from rfl] at h
  dsimp only at h
  cases q : env[i]? with
  | none => rw [q] at h; exact h.elim
  | some r =>
    cases r with
    | un => rw [q] at h; exact h.elim
    | fz d =>
      rw [q] at h
      obtain ⟨v, h1, h2⟩ := S.ent i _ q (by simp)
      obtain ⟨S1, x1⟩ := S.new (new_scal S.le h2)
      exact ⟨v, h1, h (by simp) F H σ v S1 x1 S.len SamePw.refl⟩
    | ow d =>
      rw [q] at h
      obtain ⟨v, h1, h2⟩ := S.ent i _ q (by simp)
      have hi : i < env.length := (List.getElem?_eq_some_iff.mp q).1
      obtain ⟨S1, x1⟩ := S.rel (env' := env.set i .un ++ [.ow d]) (σ' := σ ++ [some v]) (fun j k => (j < env.length ∧ j ≠ i ∧ k = j) ∨ (j = env.length ∧ k = i)) (by simp [S.len]) (by
        rintro j k l (⟨z1, z2, z3⟩ | ⟨z1, z2⟩) (⟨y1, y2, y3⟩ | ⟨y1, y2⟩) <;> omega) (fun j r er hr => by
        rcases getElem?_app1 er with er | ⟨hj, rfl⟩
        · rcases getElem?_set_cases er with ⟨_, z, _⟩ | ⟨ne, er⟩
          · exact (hr z).elim
          · have hj := (List.getElem?_eq_some_iff.mp er).1
            refine ⟨j, .inl ⟨hj, ne, rfl⟩, er, fun v' e' => ?_⟩
            rw [List.getElem?_append_left (by rw [← S.len]; exact hj)]; exact e'
        · rw [List.length_set] at hj
          subst hj
          refine ⟨i, .inr ⟨rfl, rfl⟩, q, fun v' e' => ?_⟩
          rw [h1] at e'; cases e'
          rw [S.len]; simp)
      exact ⟨v, h1, h (by simp) F H σ v S1 x1 (by simp [S.len]) SamePw.refl⟩
theorem set_pw {σ : L2.St} {i : Nat} {v : Option V} (h : i ∉ pw) : SamePw pw σ (σ.set i v) := fun j hj => by
  rw [List.getElem?_set_ne]; rintro rfl; exact h hj
theorem t_set {te : TE} {i : Nat} {D : Ends} {σ : L2.St} {H : Hp} (h : tS K XC C W pw (.set i A) D σ H) (ht : ∀ Q, tE K XC C W A σ H Q → te σ H Q) : tAsg te (gName i) D σ H := by
  obtain ⟨F, env, S, h⟩ := h
  rw [exec] at h
  refine ht _ ?_
  refine tM_sr S h fun F1 env1 x vs H1 em P o g v ev_ => ?_
  obtain ⟨hr, v', rfl⟩ := o
  cases ev_
  try dsimp only at g
  split at g
  · exact g.elim
  · rename_i hp
    obtain ⟨S2, x2⟩ := St.store P.len P.st i
    exact g F1 H1 _ S2 (P.ext.trans x2) (set_pw hp)
theorem ss_set {i : Nat} {x : Str} {pos' : Pos} (hN : X.N.Nodup) (hi : X.N[i]? = some x) (hx : Loc X.env.scope x) (he : PE X e (tE X.K XC C W A)) (hs : swapsWith e (some (.Name x pos')) pos.line X.env = pure false := by rfl) (hf : X.fn x = true ∨ X.env.scope.names.lookup x = some .local := by first | exact .inl rfl | exact .inr rfl | assumption) : PS X (.Assign [.Name x pos'] e pos) (tS X.K XC C W pw (.set i A)) := (ps_set hN hi hx he hs hf).imp' fun D σ H h => t_set h fun _ q => q
theorem ss_if {p q : List Stmt} {TA : T} {P Q : List S} (hc : PT X c (tT X.K XC C W TA)) (ha : PSs X p (tSs X.K XC C W pw P)) (hb : PSs X q (tSs X.K XC C W pw Q)) : PS X (.If c p q pos) (tS X.K XC C W pw (.ite TA P Q)) := (ps_if hc ha hb).imp' fun D σ H h => by
  obtain ⟨F, env, S, h⟩ := h
  rw [exec] at h
  change tM X.K XC W (evT C TA) (fun _ => []) (fun _ _ _ => True) σ H (fun b _ H1 => _)
  refine tM_sr S h fun F1 env1 t vs H1 em P o g => ?_
  try dsimp only at g
  cases t with
  | true => exact ⟨F1, env1, P.base, srP.behind P.bext SamePw.refl g⟩
  | false => exact ⟨F1, env1, P.base, srP.behind P.bext SamePw.refl g⟩
/-- ts = e -/
theorem ss_unp {tg : Expr} {ts : List Tg} (he : PE X e (tE X.K XC C W A)) (hg : PG X tg (tGt X.K pw (.tp ts))) (hs : swapsWithSole [tg] e pos.line X.env = pure false := by rfl) (hw : swappedStores [tg] e X.env = pure none := by rfl)
    (h1 : (assignEach [tg] X.env).map (·.2) = [assign tg X.env] := by rfl) : PS X (.Assign [tg] e pos) (tS X.K XC C W pw (.unp ts A)) := (ps_asg (se_f he) hg hs hw h1).imp' fun D σ H h => by
  obtain ⟨F, env, S, h⟩ := h
  rw [exec] at h
  change tM X.K XC W (frozen (ev C A)) (fun d => [Ent.fz d]) (fun _ _ vs => ∃ v, vs = [v]) σ H (one _)
  refine tM_sr S h fun F1 env1 d vs H1 em P o g v ev_ => ?_
  obtain ⟨v', rfl⟩ := o
  cases ev_
  try dsimp only at g
  cases q : Tg.asg pw (.tp ts) d env1 with
  | none => rw [q] at g; exact g.elim
  | some e' =>
    rw [q] at g
    exact ⟨F1, env1, d, e', P.base, P.st.lastEnt P.len (by simp), q, fun σ' S' x l o p => g F1 H1 σ' S' (P.bext.trans x) p⟩
/-- a, b = x, y -/
theorem ss_par {i j : Nat} {x y : Str} {px py pt : Pos} {kt k2 : Nat} {pt2 : Pos} {D0 : Prop} (h : ∀ ta, PA X [a, b] ta → PS X (.Assign [.Tuple [.Name x px, .Name y py] kt pt] (.Tuple [a, b] k2 pt2) pos) (tPar i j ta)) (ha : PE X a (tE X.K XC C W A)) (hb : PE X b (tE X.K XC C W B)) (hs : starEach [a, b] X.env = (false, eval a X.env) :: starEach [b] X.env := by rfl) (hs2 : starEach [b] X.env = (false, eval b X.env) :: starEach [] X.env := by rfl) : PS X (.Assign [.Tuple [.Name x px, .Name y py] kt pt] (.Tuple [a, b] k2 pt2) pos) (tS X.K XC C W pw (.par i j A B)) :=
  (h _ (pa_cons ha (pa_cons hb pa_nil hs2) hs)).imp' fun D σ H h => by
    obtain ⟨F, env, S, h⟩ := h
    rw [exec] at h
    refine tM_sr S h fun F1 env1 r vs H1 em P o g v ev_ => ?_
    obtain ⟨hr, v', rfl⟩ := o
    cases ev_
    refine ⟨F1, env1, P.base, ?_⟩
    cases e2 : ev C B env1 with
    | no => rw [e2] at g; exact g
    | ex c ps env2 =>
      rw [e2] at g
      exact fun F' H' cls dx S' x z => g F' H' σ cls dx S' (P.bext.trans x) SamePw.refl z
    | ok u env2 =>
    rw [e2] at g
    intro F2 H2 ws P2 o2 w ew
    obtain ⟨hu, w', rfl⟩ := o2
    cases ew
    have g2 : srP X.K XC W pw D F env σ H (if i ∈ pw ∨ j ∈ pw then SR.no else SR.nx ((env2.set i r).set j u)) := g
    refine ⟨v, w, rfl, ?_⟩
    split at g2
    · exact g2.elim
    · rename_i hp
      simp only [not_or] at hp
      have PP := P.seq P2
      obtain ⟨S3, X3⟩ := PP.st.rel (env' := (env2.set i r).set j u) (σ' := (σ.set i (some v)).set j (some w)) (fun k l => (k < env2.length ∧ k ≠ i ∧ k ≠ j ∧ l = k) ∨ (k = i ∧ i ≠ j ∧ l = env2.length) ∨ (k = j ∧ l = env2.length + 1)) (by simp [P2.len]) (by
        rintro k l m (⟨z1, z2, z3, z4⟩ | ⟨z1, z2, z3⟩ | ⟨z1, z2⟩) (⟨y1, y2, y3, y4⟩ | ⟨y1, y2, y3⟩ | ⟨y1, y2⟩) <;> omega) (fun k q er hq => by
        rcases getElem?_set_cases er with ⟨rfl, rfl, hk⟩ | ⟨ne, er⟩
        · refine ⟨env2.length + 1, .inr (.inr ⟨rfl, rfl⟩), by simp, fun v' e' => ?_⟩
          rw [P2.len] at e'; simp at e'; subst e'
          rw [List.getElem?_set_self (by simpa [P2.len] using hk)]
        · rcases getElem?_set_cases er with ⟨rfl, rfl, hk⟩ | ⟨ne2, er⟩
          · refine ⟨env2.length, .inr (.inl ⟨rfl, ne, rfl⟩), by simp, fun v' e' => ?_⟩
            rw [P2.len] at e'; simp at e'; subst e'
            rw [List.getElem?_set_ne (Ne.symm ne), List.getElem?_set_self (by simpa [P2.len] using hk)]
          · have hk := (List.getElem?_eq_some_iff.mp er).1
            refine ⟨k, .inl ⟨hk, ne2, ne, rfl⟩, by rw [List.getElem?_append_left hk]; exact er, fun v' e' => ?_⟩
            rw [List.getElem?_append_left (by rw [← P2.len]; exact hk)] at e'
            rw [List.getElem?_set_ne (Ne.symm ne), List.getElem?_set_ne (Ne.symm ne2)]; exact e')
      exact g2 F2 H2 _ S3 (PP.ext.trans X3) ((set_pw hp.1).trans (set_pw hp.2))
end
end PI

end

section
set_option maxRecDepth 100000
set_option maxHeartbeats 1000000
/-! Pi14: lists changed, loops. -/
namespace PI
open PySem PySem.Spec PyProof.Rows L2
theorem ownL_some {e : En} {i : Nat} {ds : List D} (h : ownL e i = some ds) : e[i]? = some (.ow (.lst ds)) := by
  unfold ownL at h
  split at h
  · rename_i q; cases h; exact q
  · cases h
section
variable {X : Cx} {XC : Str → Value → Prop} {C : Calls} {W : WX} {pw : List Nat} {K : PySem.W.Frag}
variable {e a b c : Expr} {A B : E} {pos cpos apos : Pos} {xe : Expr}
/-- where one's own list stands -/
theorem St.ownAt {F H : Hp} {env : En} {σ : L2.St} (S : St K F env σ H) {i : Nat} {ds : List D} (e : env[i]? = some (.ow (.lst ds))) : ∃ p vs, σ[i]? = some (some (.ref p)) ∧ H p = some (.lst vs) ∧ RepAll K F ds vs := by
  obtain ⟨v, h1, a, rfl, _, vs, h2, h3⟩ := S.ent i _ e (by simp)
  exact ⟨a, vs, h1, h2, h3⟩
theorem St.writeAt {F H : Hp} {env : En} {σ : L2.St} (S : St K F env σ H) {i : Nat} {ds ds' : List D} {vs' : List V} {p : Addr} (e : env[i]? = some (.ow (.lst ds))) (h : σ[i]? = some (some (.ref p))) (r : RepAll K F ds' vs') :
    St K F (env.set i (.ow (.lst ds'))) σ (upd H p (.lst vs')) ∧ Ext F env σ H F (env.set i (.ow (.lst ds'))) σ (upd H p (.lst vs')) := S.write e h r
theorem sr_opt {f : Option En} {D : Ends} {F : Hp} {env : En} {σ : L2.St} {H : Hp} (h : srP K XC W pw D F env σ H (SR.opt f)) : ∃ e, f = some e ∧ srP K XC W pw D F env σ H (.nx e) := by
  cases f with
  | none => exact h.elim
  | some e => exact ⟨e, rfl, h⟩
/-- x.append(e) -/
theorem ss_app {i : Nat} (hx : PE X xe (tVar i)) (he : PE X e (tE X.K XC C W A))
    (pr : ∀ {tx : TE} {t : TA}, PE X xe tx → PA X [e] t → PS X (.Expr (.Call (.Attribute xe "append" apos) [e] [] cpos) pos) (tDrop (tBM X.K "list" rAppend tx t))) (hs : starEach [e] X.env = (false, eval e X.env) :: starEach [] X.env := by rfl) :
    PS X (.Expr (.Call (.Attribute xe "append" apos) [e] [] cpos) pos) (tS X.K XC C W pw (.app i A)) := (pr hx (pa_cons (se_f he) pa_nil hs)).imp' fun D σ H h => by
  obtain ⟨F, env, S, h⟩ := h
  rw [exec] at h
  cases q : ownL env i with
  | none => rw [q] at h; exact h.elim
  | some ds0 =>
    rw [q] at h
    obtain ⟨p, vs0, h1, h2, _⟩ := S.ownAt (ownL_some q)
    refine ⟨.ref p, h1, .inl ⟨rfl, vs0, SqL.of h2⟩, ?_⟩
    change tM X.K XC W (frozen (ev C A)) (fun d => [Ent.fz d]) (fun _ _ vs => ∃ v, vs = [v]) σ H (one _)
    refine tM_sr S h fun F1 env1 d vs H1 em P o g v ev_ => ?_
    obtain ⟨v', rfl⟩ := o
    cases ev_
    obtain ⟨e', q2, g⟩ := sr_opt g
    unfold appL at q2
    cases q3 : ownL env1 i with
    | none => rw [q3] at q2; cases q2
    | some ds =>
      rw [q3] at q2
      dsimp only at q2
      split at q2
      · rename_i hz
        cases q2
        obtain ⟨p', vs1, h3, h4, h5⟩ := P.base.ownAt (ownL_some q3)
        rw [h1] at h3; cases h3
        have rd : Rep X.K F1 d v := P.st.lastEnt P.len (by simp)
        obtain ⟨S2, x2⟩ := P.base.writeAt (ownL_some q3) h1 (h5.append (RepAll.cons rd RepAll.nil))
        exact ⟨p, vs1, v, rfl, rfl, h4, by rw [h5.length]; exact hz, g F1 _ σ S2 (P.bext.trans x2) SamePw.refl⟩
      · cases q2
/-- x.extend(e) -/
theorem ss_ext {i : Nat} (hx : PE X xe (tVar i)) (he : PE X e (tE X.K XC C W A))
    (pr : ∀ {tx : TE} {t : TA}, PE X xe tx → PA X [e] t → PS X (.Expr (.Call (.Attribute xe "extend" apos) [e] [] cpos) pos) (tDrop (tBM X.K "list" rExtend tx t))) (hs : starEach [e] X.env = (false, eval e X.env) :: starEach [] X.env := by rfl) :
    PS X (.Expr (.Call (.Attribute xe "extend" apos) [e] [] cpos) pos) (tS X.K XC C W pw (.ext i A)) := (pr hx (pa_cons (se_f he) pa_nil hs)).imp' fun D σ H h => by
  obtain ⟨F, env, S, h⟩ := h
  rw [exec] at h
  cases q : ownL env i with
  | none => rw [q] at h; exact h.elim
  | some ds0 =>
    rw [q] at h
    obtain ⟨p, vs0, h1, h2, _⟩ := S.ownAt (ownL_some q)
    refine ⟨.ref p, h1, .inl ⟨rfl, vs0, SqL.of h2⟩, ?_⟩
    change tM X.K XC W (frozen (ev C A)) (fun d => [Ent.fz d]) (fun _ _ vs => ∃ v, vs = [v]) σ H (one _)
    refine tM_sr S h fun F1 env1 d vs H1 em P o g v ev_ => ?_
    obtain ⟨v', rfl⟩ := o
    cases ev_
    obtain ⟨e', q2, g⟩ := sr_opt g
    unfold extL at q2
    cases q3 : ownL env1 i with
    | none => rw [q3] at q2; cases q2
    | some ds =>
      rw [q3] at q2
      cases d with
      | lst ys =>
        dsimp only at q2
        split at q2
        · rename_i hz
          cases q2
          obtain ⟨p', vs1, h3, h4, h5⟩ := P.base.ownAt (ownL_some q3)
          rw [h1] at h3; cases h3
          have rd : Rep X.K F1 (.lst ys) v := P.st.lastEnt P.len (by simp)
          obtain ⟨a, ws, rfl, h6, h7⟩ := rd
          obtain ⟨S2, x2⟩ := P.base.writeAt (ownL_some q3) h1 (h5.append h7)
          exact ⟨p, a, vs1, ws, rfl, rfl, h4, P.base.le _ _ h6, by rw [h5.length, h7.length]; exact hz, g F1 _ σ S2 (P.bext.trans x2) SamePw.refl⟩
        · cases q2
      | _ => cases q2
/-- x[ix] = e -/
theorem ss_sti {i : Nat} {ix : Expr} {I : E} {tpos : Pos} (hx : PE X xe (tVar i)) (hi : PE X ix (tE X.K XC C W I)) (he : PE X e (tE X.K XC C W A))
    (pr : ∀ {te : TE} {g : TG}, PE X e te → PG X (.Subscript xe ix tpos) g → PS X (.Assign [.Subscript xe ix tpos] e pos) (tAsg te g))
    (pg : ∀ {to ti : TE}, PE X xe to → PE X ix ti → PG X (.Subscript xe ix tpos) (gSub to ti rSetL)) :
    PS X (.Assign [.Subscript xe ix tpos] e pos) (tS X.K XC C W pw (.sti i I A)) := (pr (se_f he) (pg hx hi)).imp' fun D σ H h => by
  obtain ⟨F, env, S, h⟩ := h
  rw [exec] at h
  change tM X.K XC W (frozen (ev C A)) (fun d => [Ent.fz d]) (fun _ _ vs => ∃ v, vs = [v]) σ H (one _)
  refine tM_sr S h fun F1 env1 d vs H1 em P o g v ev_ => ?_
  obtain ⟨v', rfl⟩ := o
  cases ev_
  cases q : ownL env1 i with
  | none => rw [q] at g; exact g.elim
  | some ds0 =>
    rw [q] at g
    obtain ⟨p, vs0, h1, h2, _⟩ := P.base.ownAt (ownL_some q)
    refine ⟨.ref p, h1, ?_⟩
    refine ⟨F1, env1, P.base, ?_⟩
    cases e2 : ev C I env1 with
    | no => rw [e2] at g; exact g
    | ex c ps env2 =>
      rw [e2] at g
      exact fun F' H' cls dx S' x z => g F' H' σ cls dx S' (P.bext.trans x) SamePw.refl z
    | ok r env2 =>
    rw [e2] at g
    intro F2 H2 ws P2 o2 w ew
    obtain ⟨hu, w', rfl⟩ := o2
    cases ew
    obtain ⟨e', q2, g⟩ := sr_opt g
    unfold stiL at q2
    cases q3 : ownL env2 i with
    | none => rw [q3] at q2; cases q2
    | some ds =>
      rw [q3] at q2
      split at q2
      · rename_i ds' k ed
        cases ed
        split at q2
        · rename_i j hj
          cases q2
          obtain ⟨p', vs1, h3, h4, h5⟩ := P2.base.ownAt (ownL_some q3)
          rw [h1] at h3; cases h3
          have PP := P.seq P2
          have rk : Rep X.K F2 (.int k) w := P2.st.lastEnt P2.len (by simp)
          have rd : Rep X.K F2 d v := Rep.mono P2.ext.le _ _ (P.st.lastEnt P.len (by simp))
          obtain ⟨S2, x2⟩ := P2.base.writeAt (ownL_some q3) h1 (RepAll.set rd j h5)
          exact ⟨p, vs1, k, j, rfl, rk, h4, by rw [h5.length]; exact hj, g F2 _ σ S2 (PP.bext.trans x2) SamePw.refl⟩
        · cases q2
      · cases q2
/-! ### loops -/
theorem srP_turn {D D' : Ends} {F F2 : Hp} {env e2 : En} {σ σ2 : L2.St} {H H2 : Hp} {r : SR} {k : En → SR} {N : L2.St → Hp → Prop} (hD : D' = { D with nx := N, ct := N, bk := D.nx }) (X : Ext F env σ H F2 e2 σ2 H2) (p : SamePw pw σ σ2) (h : srP K XC W pw D F env σ H (turn r k))
    (hN : ∀ e F' H' σ', St K F' e σ' H' → Ext F2 e2 σ2 H2 F' e σ' H' → SamePw pw σ2 σ' → srP K XC W pw D F env σ H (k e) → N σ' H') : srP K XC W pw D' F2 e2 σ2 H2 r := by
  subst hD
  cases r with
  | nx e => exact fun F' H' σ' S x p => hN e F' H' σ' S x p h
  | ct e => exact fun F' H' σ' S x p => hN e F' H' σ' S x p h
  | bk e => exact fun F' H' σ' S y q => h F' H' σ' S (X.trans y) (p.trans q)
  | rt r e => exact fun hr F' H' σ' v S y l q => h hr F' H' σ' v S (X.trans y) l (p.trans q)
  | ex c ps e => exact fun F' H' σ' cls dx S y q z => h F' H' σ' cls dx S (X.trans y) (p.trans q) z
  | no => exact h
theorem ss_for {tgE iter : Expr} {body : List Stmt} {tg : Tg} {ik : List D → Option (List D)} {ies : List E} {bs : List S} (hp : PassesOwn (model X.prog X.w) X.A X.env X.xe) (hc : X.calm = true) (hi : PI X tgE iter (tIt X.K XC C W ik ies)) (hg : PG X tgE (tGt X.K pw tg)) (hb : PSs X body (tSs X.K XC C W pw bs))
    (hs : ∀ x, foldedSetIterable iter X.env x = pure x := by intro _; rfl) : PS X (.For tgE iter body [] pos) (tS X.K XC C W pw (.for_ tg ik ies bs)) := (ps_for hp hc hi hg hb hs).imp' fun D σ H h => by
  obtain ⟨F, env, S, h⟩ := h
  rw [exec] at h
  refine ⟨F, env, S, ?_⟩
  cases e1 : evs C ies env with
  | no => rw [e1] at h; exact h
  | ex c ps env1 =>
    rw [e1] at h
    exact fun F' H' cls dx S' x z => h F' H' σ cls dx S' x SamePw.refl z
  | ok ds env1 =>
    rw [e1] at h
    replace h : srP X.K XC W pw D F env σ H (match ik ds with | none => .no | some xs => forLoop pw tg (execs C pw bs) xs env1) := h
    cases e2 : ik ds with
    | none => rw [e2] at h; exact h.elim
    | some xs =>
      rw [e2] at h
      dsimp only at h
      refine ⟨xs, e2, fun F0 H0 J S0 X0 hJ => ?_⟩
      refine ⟨fun i m σ1 H1 => m = xs.length - i ∧ i ≤ xs.length ∧ ∃ F1 e1, FLe F0 F1 ∧ St X.K F1 e1 σ1 H1 ∧ Ext F env σ H F1 e1 σ1 H1 ∧ SamePw pw σ σ1 ∧ srP X.K XC W pw D F env σ H (forLoop pw tg (execs C pw bs) (xs.drop i) e1),
        ⟨xs.length, rfl, Nat.zero_le _, F0, env1, FLe.refl, S0, X0, SamePw.refl, h⟩, ?_⟩
      rintro i m σ1 H1 ⟨rfl, hi', F1, e1, l1, S1, X1, p1, g⟩
      by_cases hlt : i < xs.length
      · obtain ⟨d, hd⟩ : ∃ d, xs[i]? = some d := ⟨xs[i], by simp [hlt]⟩
        have dr : xs.drop i = d :: xs.drop (i + 1) := by
          rw [List.drop_eq_getElem_cons hlt]
          rw [List.getElem?_eq_getElem hlt] at hd
          cases hd; rfl
        rw [dr] at g
        unfold forLoop at g
        obtain ⟨go, yl⟩ := (hJ F1 H1 i l1 S1.le).1 d hd
        refine .inr ⟨go, fun σ' H' => (fun m => i + 1 ≤ xs.length ∧ ∃ F1 e1, FLe F0 F1 ∧ St X.K F1 e1 σ' H' ∧ Ext F env σ H F1 e1 σ' H' ∧ SamePw pw σ σ' ∧ srP X.K XC W pw D F env σ H (forLoop pw tg (execs C pw bs) (xs.drop (i + 1)) e1)) 0,
          fun σ' H' n => ⟨xs.length - (i + 1), by omega, rfl, n⟩, fun x H2 y => ?_⟩
        obtain ⟨F2, n2⟩ := yl x H2 y
        obtain ⟨S2, X2⟩ := S1.new n2
        have S3 : St X.K F2 e1 σ1 H2 := S2.left S1.len
        have X3 := (X1.trans X2).trans (Ext.left S1.len)
        cases q : Tg.asg pw tg d e1 with
        | none => rw [q] at g; exact g.elim
        | some e2 =>
          rw [q] at g
          refine ⟨F2, e1, d, e2, S3, n2.ent, q, fun σ2 S4 X4 _ _ p4 => ?_⟩
          refine ⟨F2, e2, S4, ?_⟩
          have X5 := X3.trans X4
          have p5 := p1.trans p4
          refine srP_turn rfl X5 p5 g fun e3 F' H' σ' S' x' p' k => ?_
          exact ⟨by omega, F', e3, l1.trans (n2.le.trans (X4.le.trans x'.le)), S', X5.trans x', p5.trans p', k⟩
      · have ei : i = xs.length := by omega
        subst ei
        rw [List.drop_length] at g
        unfold forLoop at g
        exact .inl ⟨(hJ F1 H1 _ l1 S1.le).2 (Nat.le_refl _), g F1 H1 σ1 S1 X1 p1⟩
theorem ss_while {c : Expr} {body : List Stmt} {TA : T} {bs : List S} (hp : PassesOwn (model X.prog X.w) X.A X.env X.xe) (hc : PT X c (tT X.K XC C W TA)) (hb : PSs X body (tSs X.K XC C W pw bs)) : PS X (.While c body [] pos) (tS X.K XC C W pw (.whl TA bs)) := (ps_while hp hc hb).imp' fun D σ H h => by
  obtain ⟨F, env, S, h⟩ := h
  rw [exec] at h
  refine ⟨fun m σ1 H1 => ∃ F1 e1, St X.K F1 e1 σ1 H1 ∧ Ext F env σ H F1 e1 σ1 H1 ∧ SamePw pw σ σ1 ∧ srP X.K XC W pw D F env σ H (whlLoop (evT C TA) (execs C pw bs) m e1), ⟨whlFuel, F, env, S, Ext.refl, SamePw.refl, h⟩, ?_⟩
  rintro m σ1 H1 ⟨F1, e1, S1, X1, p1, g⟩
  cases m with
  | zero => unfold whlLoop at g; exact g.elim
  | succ m =>
    unfold whlLoop at g
    refine ⟨F1, e1, S1, ?_⟩
    cases q : evT C TA e1 with
    | no => rw [q] at g; exact g
    | ex c ps e2 =>
      rw [q] at g
      exact fun F' H' cls dx S' x z => g F' H' σ1 cls dx S' (X1.trans x) p1 z
    | ok b e2 =>
      rw [q] at g
      intro F2 H2 vs P _
      dsimp only
      cases b with
      | false =>
        rw [if_neg (by decide)]
        exact g F2 H2 σ1 P.base (X1.trans P.bext) p1
      | true =>
        rw [if_pos rfl]
        replace g : srP X.K XC W pw D F env σ H (turn (execs C pw bs e2) (whlLoop (evT C TA) (execs C pw bs) m)) := g
        refine ⟨fun σ' H' => ∃ F1 e1, St X.K F1 e1 σ' H' ∧ Ext F env σ H F1 e1 σ' H' ∧ SamePw pw σ σ' ∧ srP X.K XC W pw D F env σ H (whlLoop (evT C TA) (execs C pw bs) m e1), fun σ' H' n => ⟨m, Nat.lt_succ_self _, n⟩, F2, e2, P.base, ?_⟩
        refine srP_turn rfl (X1.trans P.bext) p1 g fun e3 F' H' σ' S' x' p' k => ?_
        exact ⟨F', e3, S', (X1.trans P.bext).trans x', p1.trans p', k⟩
/-- x = [.. for ..] on one line -/
theorem ss_setC {i : Nat} {y : Str} {py : Pos} {elt tgE iter : Expr} {ifs : List Expr} {scope : Scope} {own : List (Str × Nat)} {spos : Pos} {tg : Tg} {ik : List D → Option (List D)} {ies : List E} {cs : List T} (hc : X.calm = true) (hN : X.N.Nodup) (hy : X.N[i]? = some y) (hyl : X.env.scope.names.lookup y = some .local)
    (hsw : swapsWith (.ListComp elt [⟨tgE, iter, ifs, 0⟩] scope pos) (some (.Name y py)) spos.line X.env = pure true) (hi : PI X tgE iter (tIt X.K XC C W ik ies)) (ok : BlkOk X.N X.env.scope scope own)
    (hg : ∀ (s : Shared) (H : Hp) (Ca : Addr) (cl : List (Str × Addr)) (fp : List Addr), PG (X.blk s H scope (compEnvC scope cl Ca X.env) fp) tgE (tGt X.K [] tg)) (ht : ∀ (s : Shared) (H : Hp) (Ca : Addr) (cl : List (Str × Addr)) (fp : List Addr), PTs (X.blk s H scope (compEnvC scope cl Ca X.env) fp) ifs (tTs X.K XC C W0 cs))
    (he : ∀ (s : Shared) (H : Hp) (Ca : Addr) (cl : List (Str × Addr)) (fp : List Addr), PE (X.blk s H scope (compEnvC scope cl Ca X.env) fp) elt (tE X.K XC C W0 A)) (ho : ∀ i ∈ tg.slots, i ∈ own.map (·.2)) (hs : ∀ x, foldedSetIterable iter X.env x = pure x := by intro _; rfl) :
    PS X (.Assign [.Name y py] (.ListComp elt [⟨tgE, iter, ifs, 0⟩] scope pos) spos) (tS X.K XC C W pw (.set i (.comp (own.map (·.2)) tg ik ies cs A))) :=
  (ps_setLc hc hN hy hyl hsw hi ok hg ht (fun s H Ca cl fp => se_f (he s H Ca cl fp)) hs).imp' fun D σ H h => t_set h fun Q q => t_lc q ho
end
end PI

end

section
set_option maxRecDepth 100000
set_option maxHeartbeats 1000000
/-! Pi15: prims. -/
namespace PI
open PySem PySem.Spec PyProof.Rows L2

mutual
def D.toPy : D → PyData
  | .non => .none
  | .bl b => .bool b
  | .int i => .int i
  | .str x => .str x
  | .tup xs => .tuple (D.toPys xs)
  | .lst xs => .list (D.toPys xs)
  | .scr xs => .list (D.toPys xs)
  | .dct _ _ => .dict []
  | .set _ => .dict []
  | .exc _ _ => .dict []
def D.toPys : List D → List PyData
  | [] => []
  | x :: xs => x.toPy :: D.toPys xs
end
mutual
theorem Rep.dp {K : PySem.W.Frag} {H : Hp} : ∀ (d : D) (v : V), Rep K H d v → d.toPy.canLay0 = true → Dp K H v d.toPy
  | .non, v, h, _ => by cases (show v = _ from h); exact .non
  | .bl b, v, h, _ => by cases (show v = _ from h); exact .bl b
  | .int i, v, h, _ => by cases (show v = _ from h); exact .int i
  | .str x, v, h, _ => by cases (show v = _ from h); exact .str x
  | .tup ds, v, h, c => by
    obtain ⟨a, vs, rfl, s, r⟩ := h
    exact .tup s (RepAll.dp ds vs r (by simpa [D.toPy, PyData.canLay0] using c))
  | .lst ds, v, h, c => by
    obtain ⟨a, vs, rfl, s, r⟩ := h
    exact .lst (SqL.of s) (RepAll.dp ds vs r (by simpa [D.toPy, PyData.canLay0] using c))
  | .scr ds, v, h, c => by
    obtain ⟨a, vs, rfl, s, r⟩ := h
    exact .lst s (RepAll.dp ds vs r (by simpa [D.toPy, PyData.canLay0] using c))
  | .dct _ _, v, h, _ => h.elim
  | .set _, v, h, _ => h.elim
  | .exc _ _, v, h, _ => h.elim
theorem RepAll.dp {K : PySem.W.Frag} {H : Hp} : ∀ (ds : List D) (vs : List V), RepAll K H ds vs → PyData.canLayAll0 (D.toPys ds) = true → DpAll K H vs (D.toPys ds)
  | [], vs, h, _ => by cases (show vs = [] from h); exact .nil
  | d :: ds, vs, h, c => by
    obtain ⟨v, r, rfl, h1, h2⟩ := h
    have c' : d.toPy.canLay0 = true ∧ PyData.canLayAll0 (D.toPys ds) = true := by simpa [D.toPys, PyData.canLayAll0] using c
    exact .cons (Rep.dp d v h1 c'.1) (RepAll.dp ds r h2 c'.2)
end
def eqOk (a b : PyData) : Bool := a.canLay0 && b.canLay0 && decide (min a.depth b.depth ≤ 64)
def peq : List D → Option Ent
  | [a, b] => if eqOk a.toPy b.toPy = true then some (.fz (.bl (a.toPy.eqv b.toPy))) else none
  | _ => none
def pne : List D → Option Ent
  | [a, b] => if eqOk a.toPy b.toPy = true then some (.fz (.bl (!a.toPy.eqv b.toPy))) else none
  | _ => none
def padd : List D → Option Ent
  | [.int a, .int b] => some (.fz (.int (a + b)))
  | [.tup a, .tup b] => if a.length + b.length ≤ sizeLine then some (.fz (.tup (a ++ b))) else none
  | [.lst a, .lst b] => if a.length + b.length ≤ sizeLine then some (.ow (.lst (a ++ b))) else none
  | [.str a, .str b] => if a.length + b.length ≤ sizeLine then some (.fz (.str (a ++ b))) else none
  | _ => none
def psub : List D → Option Ent
  | [.int a, .int b] => some (.fz (.int (a - b)))
  | _ => none
def cmulB (a b : Int) : Prop := a.natAbs < 18446744073709551616 ∨ b.natAbs < 18446744073709551616
instance {i j : Int} : Decidable (cmulB i j) := inferInstanceAs (Decidable (_ ∨ _))
theorem cmulB_iff {a b : Int} : cmulB a b ↔ CMul a b := by unfold cmulB CMul; omega
def pmul : List D → Option Ent
  | [.int a, .int b] => if cmulB a b then some (.fz (.int (a * b))) else none
  | [.lst a, .int k] => if k.natAbs < 9223372036854775808 ∧ a.length * k.toNat ≤ sizeLine then some (.ow (.lst (List.replicate k.toNat a).flatten)) else none
  | _ => none
def pfdiv : List D → Option Ent
  | [.int a, .int b] => if b ≠ 0 ∧ b.natAbs < 1073741824 then some (.fz (.int (a.fdiv b))) else none
  | _ => none
def pmod : List D → Option Ent
  | [.int a, .int b] => if b ≠ 0 then some (.fz (.int (a.fmod b))) else none
  | _ => none
def ppow : List D → Option Ent
  | [.int a, .int b] => if 0 ≤ b ∧ b.natAbs ≤ 1000000 ∧ a.natAbs < 18446744073709551616 then some (.fz (.int (a ^ b.toNat))) else none
  | _ => none
def plt : List D → Option Ent
  | [.int a, .int b] => some (.fz (.bl (decide (a < b))))
  | _ => none
def ple : List D → Option Ent
  | [.int a, .int b] => some (.fz (.bl (decide (a ≤ b))))
  | _ => none
def pgt : List D → Option Ent
  | [.int a, .int b] => some (.fz (.bl (decide (b < a))))
  | _ => none
def pge : List D → Option Ent
  | [.int a, .int b] => some (.fz (.bl (decide (b ≤ a))))
  | _ => none
def D.isN : D → Bool
  | .non => true
  | _ => false
def pisN : List D → Option Ent
  | [a, .non] => some (.fz (.bl a.isN))
  | _ => none
def pnotN : List D → Option Ent
  | [a, .non] => some (.fz (.bl (!a.isN)))
  | _ => none
def pneg : List D → Option Ent
  | [.int a] => some (.fz (.int (-a)))
  | _ => none
def pabs : List D → Option Ent
  | [.int a] => some (.fz (.int (if a < 0 then -a else a)))
  | _ => none
def pint : List D → Option Ent
  | [.int a] => some (.fz (.int a))
  | [.bl b] => some (.fz (.int (if b then 1 else 0)))
  | _ => none
def pmin2 : List D → Option Ent
  | [.int a, .int b] => some (.fz (.int (if b < a then b else a)))
  | _ => none
def pmax2 : List D → Option Ent
  | [.int a, .int b] => some (.fz (.int (if b > a then b else a)))
  | _ => none
def plen : List D → Option Ent
  | [.tup xs] => some (.fz (.int xs.length))
  | [.lst xs] => some (.fz (.int xs.length))
  | [.scr xs] => some (.fz (.int xs.length))
  | [.str x] => if x.length ≤ sizeLine then some (.fz (.int x.length)) else none
  | _ => none
def ptuple : List D → Option Ent
  | [.lst xs] => some (.fz (.tup xs))
  | [.tup xs] => some (.fz (.tup xs))
  | [.scr xs] => some (.fz (.tup xs))
  | _ => none
def plist : List D → Option Ent
  | [.lst xs] => some (.ow (.lst xs))
  | [.tup xs] => some (.ow (.lst xs))
  | [.scr xs] => some (.ow (.lst xs))
  | _ => none
def bools : List D → Option (List Bool)
  | [] => some []
  | .bl b :: ds => (bools ds).map (b :: ·)
  | _ :: _ => none
def pall : List D → Option Ent
  | [.lst xs] => (bools xs).map fun bs => .fz (.bl (bs.all id))
  | _ => none
def pany : List D → Option Ent
  | [.lst xs] => (bools xs).map fun bs => .fz (.bl (bs.any id))
  | _ => none
def pidx : List D → Option Ent
  | [.tup xs, .int i] => (atI xs i).map .fz
  | [.lst xs, .int i] => (atI xs i).map .fz
  | [.scr xs, .int i] => (atI xs i).map .fz
  | _ => none
inductive Cl where
  | int | bool | str | tuple | list | none_
def Cl.nm : Cl → String
  | .int => "int" | .bool => "bool" | .str => "str" | .tuple => "tuple" | .list => "list" | .none_ => "NoneType"
def D.cl : D → Option Cl
  | .non => some .none_
  | .bl _ => some .bool
  | .int _ => some .int
  | .str _ => some .str
  | .tup _ => some .tuple
  | .lst _ => some .list
  | _ => none
def isC : Cl → Cl → Bool
  | .int, .int => true | .bool, .int => true | .bool, .bool => true | .str, .str => true | .tuple, .tuple => true | .list, .list => true | .none_, .none_ => true
  | _, _ => false
def pisi (cs : List Cl) : List D → Option Ent
  | [a] => a.cl.map fun c => .fz (.bl (cs.any fun k => isC c k))
  | _ => none

section
variable {X : Cx} {K : PySem.W.Frag}
theorem _root_.L2.OpR.imp' {f : Value → Value → Sem Value} {r r' : R2} (h : OpR X f r) (i : ∀ x y H Q, r' x y H Q → r x y H Q) : OpR X f r' := fun pins s σ H x y v u Q I rx ry q => h pins s σ H x y v u Q I rx ry (i _ _ _ _ q)
theorem _root_.L2.UnR.imp' {f : Value → Sem Value} {r r' : V → Hp → VK → Prop} (h : UnR X f r) (i : ∀ x H Q, r' x H Q → r x H Q) : UnR X f r' := fun pins s σ H x v Q I rx q => h pins s σ H x v Q I rx (i _ _ _ q)
theorem _root_.L2.CallR.imp' {f : Value} {r r' : List V → Hp → VK → Prop} (h : CallR X f r) (i : ∀ x H Q, r' x H Q → r x H Q) : CallR X f r' := fun pins s σ H x v Q I rx q => h pins s σ H x v Q I rx (i _ _ _ q)
theorem rep1 {H : Hp} {d : D} {vs : List V} (h : RepAll K H [d] vs) : ∃ v, vs = [v] ∧ Rep K H d v := by
  obtain ⟨v, r, rfl, h1, h2⟩ := h
  cases (show r = [] from h2)
  exact ⟨v, rfl, h1⟩
theorem rep2 {H : Hp} {d e : D} {vs : List V} (h : RepAll K H [d, e] vs) : ∃ v w, vs = [v, w] ∧ Rep K H d v ∧ Rep K H e w := by
  obtain ⟨v, r, rfl, h1, h2⟩ := h
  obtain ⟨w, rfl, h3⟩ := rep1 h2
  exact ⟨v, w, rfl, h1, h3⟩
theorem rd1 {F H : Hp} {d : D} {vs : List V} (h : RdAll K F H [d] vs) : ∃ v, vs = [v] ∧ Rdb K F H d v := by
  obtain ⟨v, r, rfl, h1, h2⟩ := h
  cases (show r = [] from h2)
  exact ⟨v, rfl, h1⟩
theorem rd2 {F H : Hp} {d e : D} {vs : List V} (h : RdAll K F H [d, e] vs) : ∃ v w, vs = [v, w] ∧ Rdb K F H d v ∧ Rdb K F H e w := by
  obtain ⟨v, r, rfl, h1, h2⟩ := h
  obtain ⟨w, rfl, h3⟩ := rd1 h2
  exact ⟨v, w, rfl, h1, h3⟩
/-- a readable list's items are frozen -/
theorem Rdb.items {F H : Hp} {ds : List D} {v : V} (l : FLe F H) (h : Rdb K F H (.lst ds) v) : ∃ a vs, v = .ref a ∧ H a = some (.lst vs) ∧ RepAll K F ds vs := by
  rcases h with ⟨a, vs, rfl, h1, h2⟩ | ⟨a, rfl, _, vs, h1, h2⟩
  · exact ⟨a, vs, rfl, l _ _ h1, h2⟩
  · exact ⟨a, vs, rfl, h1, h2⟩
theorem Rdb.titems {F H : Hp} {ds : List D} {v : V} (h : Rdb K F H (.tup ds) v) : ∃ a vs, v = .ref a ∧ SqT K F a vs ∧ RepAll K F ds vs := by
  rcases h with ⟨a, vs, rfl, h1, h2⟩ | ⟨a, rfl, _, h⟩
  · exact ⟨a, vs, rfl, h1, h2⟩
  · exact h.elim
theorem Rdb.sitems {F H : Hp} {ds : List D} {v : V} (h : Rdb K F H (.scr ds) v) : ∃ a vs, v = .ref a ∧ SqL K F a vs ∧ RepAll K F ds vs := by
  rcases h with ⟨a, vs, rfl, h1, h2⟩ | ⟨a, rfl, _, h⟩
  · exact ⟨a, vs, rfl, h1, h2⟩
  · exact h.elim
theorem Rdb.int {F H : Hp} {i : Int} {v : V} (h : Rdb K F H (.int i) v) : v = .int i := by
  rcases h with h | ⟨a, rfl, _, h⟩
  · exact h
  · exact h.elim
theorem Rdb.bl {F H : Hp} {b : Bool} {v : V} (h : Rdb K F H (.bl b) v) : v = .bl b := by
  rcases h with h | ⟨a, rfl, _, h⟩
  · exact h
  · exact h.elim
theorem Rdb.str {F H : Hp} {b : Str} {v : V} (h : Rdb K F H (.str b) v) : v = .str b := by
  rcases h with h | ⟨a, rfl, _, h⟩
  · exact h
  · exact h.elim
theorem po_ints {f : Value → Value → Sem Value} {r : R2} {p : List D → Option Ent} (h : OpR X f r) (hp : ∀ ds e, p ds = some e → ∃ i j d v, ds = [.int i, .int j] ∧ e = .fz d ∧ (∀ F, Rep X.K F d v) ∧ ∀ H Q, Q v H → r (.int i) (.int j) H Q) : OpR X f (rP2 X.K p) := h.imp' fun x y H Q h => by
  obtain ⟨F, ds, res, l, R, e, hr, q⟩ := h
  obtain ⟨i, j, d, v, rfl, rfl, hv, hq⟩ := hp _ _ e
  obtain ⟨v1, v2, e1, r1, r2⟩ := rd2 R
  cases e1
  cases r1.int
  cases r2.int
  exact hq H Q (q F H v (new_scal l (hv F)))
theorem po_sub : OpR X (binaryOp .Sub) (rP2 X.K psub) := po_ints op_sub fun ds e h => by
  unfold psub at h; split at h
  · cases h; exact ⟨_, _, _, _, rfl, rfl, fun _ => by unfold Rep; rfl, fun H Q q => ⟨_, _, rfl, rfl, q⟩⟩
  · cases h
theorem po_fdiv : OpR X (binaryOp .FloorDiv) (rP2 X.K pfdiv) := po_ints op_fdivN fun ds e h => by
  unfold pfdiv at h; split at h
  · split at h
    · rename_i hc; cases h; exact ⟨_, _, _, _, rfl, rfl, fun _ => by unfold Rep; rfl, fun H Q q => ⟨_, _, rfl, rfl, hc, q⟩⟩
    · cases h
  · cases h
theorem po_mod : OpR X (binaryOp .Mod) (rP2 X.K pmod) := po_ints op_modN fun ds e h => by
  unfold pmod at h; split at h
  · split at h
    · rename_i hc; cases h; exact ⟨_, _, _, _, rfl, rfl, fun _ => by unfold Rep; rfl, fun H Q q => ⟨_, _, rfl, rfl, hc, q⟩⟩
    · cases h
  · cases h
theorem po_pow : OpR X (binaryOp .Pow) (rP2 X.K ppow) := po_ints op_pow fun ds e h => by
  unfold ppow at h; split at h
  · split at h
    · rename_i hc; cases h; exact ⟨_, _, _, _, rfl, rfl, fun _ => by unfold Rep; rfl, fun H Q q => ⟨_, _, rfl, rfl, ⟨hc.1, by omega, by omega⟩, q⟩⟩
    · cases h
  · cases h
theorem po_lt : OpR X (compareOp .Lt) (rP2 X.K plt) := po_ints op_lt fun ds e h => by
  unfold plt at h; split at h
  · cases h; exact ⟨_, _, _, _, rfl, rfl, fun _ => by unfold Rep; rfl, fun H Q q => ⟨_, _, rfl, rfl, q⟩⟩
  · cases h
theorem po_le : OpR X (compareOp .LtE) (rP2 X.K ple) := po_ints op_le fun ds e h => by
  unfold ple at h; split at h
  · cases h; exact ⟨_, _, _, _, rfl, rfl, fun _ => by unfold Rep; rfl, fun H Q q => ⟨_, _, rfl, rfl, q⟩⟩
  · cases h
theorem po_gt : OpR X (compareOp .Gt) (rP2 X.K pgt) := po_ints op_gt fun ds e h => by
  unfold pgt at h; split at h
  · cases h; exact ⟨_, _, _, _, rfl, rfl, fun _ => by unfold Rep; rfl, fun H Q q => ⟨_, _, rfl, rfl, q⟩⟩
  · cases h
theorem po_ge : OpR X (compareOp .GtE) (rP2 X.K pge) := po_ints op_ge fun ds e h => by
  unfold pge at h; split at h
  · cases h; exact ⟨_, _, _, _, rfl, rfl, fun _ => by unfold Rep; rfl, fun H Q q => ⟨_, _, rfl, rfl, q⟩⟩
  · cases h
/-- a test's answers are truth values -/
theorem hb_lt : ∀ ds r, plt ds = some r → ∃ b, r = .fz (.bl b) := fun ds r h => by unfold plt at h; split at h <;> cases h; exact ⟨_, rfl⟩
theorem hb_le : ∀ ds r, ple ds = some r → ∃ b, r = .fz (.bl b) := fun ds r h => by unfold ple at h; split at h <;> cases h; exact ⟨_, rfl⟩
theorem hb_gt : ∀ ds r, pgt ds = some r → ∃ b, r = .fz (.bl b) := fun ds r h => by unfold pgt at h; split at h <;> cases h; exact ⟨_, rfl⟩
theorem hb_ge : ∀ ds r, pge ds = some r → ∃ b, r = .fz (.bl b) := fun ds r h => by unfold pge at h; split at h <;> cases h; exact ⟨_, rfl⟩
theorem hb_eq : ∀ ds r, peq ds = some r → ∃ b, r = .fz (.bl b) := fun ds r h => by
  unfold peq at h; split at h
  · split at h <;> cases h; exact ⟨_, rfl⟩
  · cases h
theorem hb_ne : ∀ ds r, pne ds = some r → ∃ b, r = .fz (.bl b) := fun ds r h => by
  unfold pne at h; split at h
  · split at h <;> cases h; exact ⟨_, rfl⟩
  · cases h
theorem hb_isN : ∀ ds r, pisN ds = some r → ∃ b, r = .fz (.bl b) := fun ds r h => by unfold pisN at h; split at h <;> cases h; exact ⟨_, rfl⟩
theorem hb_notN : ∀ ds r, pnotN ds = some r → ∃ b, r = .fz (.bl b) := fun ds r h => by unfold pnotN at h; split at h <;> cases h; exact ⟨_, rfl⟩
theorem po_eq (hu : X.A.units + 64 < cLine) : OpR X (compareOp .Eq) (rP2 X.K peq) := by
  intro pins s σ H x y v u Q I rx ry h
  obtain ⟨F, ds, res, l, R, e, hr, q⟩ := h
  unfold peq at e
  split at e
  · rename_i a b
    split at e
    · rename_i hk
      cases e
      obtain ⟨v1, v2, e1, r1, r2⟩ := rep2 (R.read l)
      cases e1
      unfold eqOk at hk
      simp only [Bool.and_eq_true, decide_eq_true_eq] at hk
      obtain ⟨as, q1⟩ := Dp.reads I _ _ v (Rep.dp a x r1 hk.1.1) rx
      obtain ⟨bs, q2⟩ := Dp.reads I _ _ u (Rep.dp b y r2 hk.1.2) ry
      exact SeqAt.compareEq_reads q1 q2 hk.1.1 hk.1.2 (by omega) ⟨.bl _, H, I, rfl, q F H _ (new_scal l (by unfold Rep; rfl))⟩
    · cases e
  · cases e
theorem po_ne (hu : X.A.units + 64 < cLine) : OpR X (compareOp .NotEq) (rP2 X.K pne) := by
  intro pins s σ H x y v u Q I rx ry h
  obtain ⟨F, ds, res, l, R, e, hr, q⟩ := h
  unfold pne at e
  split at e
  · rename_i a b
    split at e
    · rename_i hk
      cases e
      obtain ⟨v1, v2, e1, r1, r2⟩ := rep2 (R.read l)
      cases e1
      unfold eqOk at hk
      simp only [Bool.and_eq_true, decide_eq_true_eq] at hk
      obtain ⟨as, q1⟩ := Dp.reads I _ _ v (Rep.dp a x r1 hk.1.1) rx
      obtain ⟨bs, q2⟩ := Dp.reads I _ _ u (Rep.dp b y r2 hk.1.2) ry
      exact SeqAt.compareNe_reads q1 q2 hk.1.1 hk.1.2 (by omega) ⟨.bl _, H, I, rfl, q F H _ (new_scal l (by unfold Rep; rfl))⟩
    · cases e
  · cases e
theorem isN_dec {H : Hp} {a : D} {x : V} (r : Rep K H a x) : decide (x = .non) = a.isN := by
  cases a with
  | non => cases (show x = _ from r); rfl
  | bl b => cases (show x = _ from r); rfl
  | int i => cases (show x = _ from r); rfl
  | str z => cases (show x = _ from r); rfl
  | tup ds => obtain ⟨a, vs, rfl, _⟩ := r; rfl
  | lst ds => obtain ⟨a, vs, rfl, _⟩ := r; rfl
  | scr ds => obtain ⟨a, vs, rfl, _⟩ := r; rfl
  | dct _ _ => exact r.elim
  | set _ => exact r.elim
  | exc _ _ => exact r.elim
theorem po_isN : OpR X (compareOp .Is) (rP2 X.K pisN) := op_isN.imp' fun x y H Q h => by
  obtain ⟨F, ds, res, l, R, e, hr, q⟩ := h
  unfold pisN at e; split at e
  · cases e
    obtain ⟨v1, v2, e1, r1, r2⟩ := rep2 (R.read l)
    cases e1
    exact ⟨r2, q F H _ (new_scal l (by rw [isN_dec r1]; unfold Rep; rfl))⟩
  · cases e
theorem po_notN : OpR X (compareOp .IsNot) (rP2 X.K pnotN) := op_notN.imp' fun x y H Q h => by
  obtain ⟨F, ds, res, l, R, e, hr, q⟩ := h
  unfold pnotN at e; split at e
  · cases e
    obtain ⟨v1, v2, e1, r1, r2⟩ := rep2 (R.read l)
    cases e1
    exact ⟨r2, q F H _ (new_scal l (by rw [isN_dec r1]; unfold Rep; rfl))⟩
  · cases e
theorem po_neg : UnR X (unaryOp .USub) (rP1 X.K pneg) := un_neg.imp' fun x H Q h => by
  obtain ⟨F, ds, res, l, R, e, hr, q⟩ := h
  unfold pneg at e; split at e
  · cases e
    obtain ⟨v1, e1, r1⟩ := rd1 R
    cases e1; cases r1.int
    exact ⟨_, rfl, q F H _ (new_scal l (by unfold Rep; rfl))⟩
  · cases e
theorem sq_of {F H : Hp} {a : Addr} {vs : List V} (l : FLe F H) (h : SqT K F a vs) : SqT K H a vs := SqT.mono l h
theorem po_add : OpR X (binaryOp .Add) (rP2 X.K padd) := ((op_add.or op_catA).or (op_cat.or op_add_str)).imp' fun x y H Q h => by
  obtain ⟨F, ds, res, l, R, e, hr, q⟩ := h
  unfold padd at e; split at e
  · cases e
    obtain ⟨v1, v2, e1, r1, r2⟩ := rd2 R
    cases e1; cases r1.int; cases r2.int
    exact .inl (.inl ⟨_, _, rfl, rfl, q F H _ (new_scal l (by unfold Rep; rfl))⟩)
  · split at e
    · rename_i hz
      cases e
      obtain ⟨v1, v2, e1, r1, r2⟩ := rd2 R
      cases e1
      obtain ⟨a, vs, rfl, s1, q1⟩ := r1.titems
      obtain ⟨b, ws, rfl, s2, q2⟩ := r2.titems
      refine .inl (.inr ⟨a, b, vs, ws, rfl, rfl, SqT.mono l s1, SqT.mono l s2, by rw [q1.length, q2.length]; exact hz, fun z => ?_, fun z z2 => ?_, fun _ _ p hp => ?_⟩)
      · subst z
        have := q1.length
        have e0 := List.length_eq_zero_iff.mp this.symm
        subst e0
        exact q F H _ (new_scal l ⟨b, ws, rfl, s2, q2⟩)
      · subst z2
        have := q2.length
        have e0 := List.length_eq_zero_iff.mp this.symm
        subst e0
        exact q F H _ (new_scal l ⟨a, vs, rfl, s1, by simpa using q1⟩)
      · exact q _ _ _ (new_tup l hp (q1.append q2))
    · cases e
  · split at e
    · rename_i hz
      cases e
      obtain ⟨v1, v2, e1, r1, r2⟩ := rd2 R
      cases e1
      obtain ⟨a, vs, rfl, s1, q1⟩ := r1.items l
      obtain ⟨b, ws, rfl, s2, q2⟩ := r2.items l
      exact .inr (.inl ⟨a, b, vs, ws, rfl, rfl, s1, s2, by rw [q1.length, q2.length]; exact hz, fun p hp => q _ _ _ (new_lst l hp (q1.append q2))⟩)
    · cases e
  · split at e
    · rename_i hz
      cases e
      obtain ⟨v1, v2, e1, r1, r2⟩ := rd2 R
      cases e1; cases r1.str; cases r2.str
      exact .inr (.inr ⟨_, _, rfl, rfl, hz, q F H _ (new_scal l (by unfold Rep; rfl))⟩)
    · cases e
  · cases e
theorem po_mul : OpR X (binaryOp .Mult) (rP2 X.K pmul) := (op_mul.or op_rep).imp' fun x y H Q h => by
  obtain ⟨F, ds, res, l, R, e, hr, q⟩ := h
  unfold pmul at e; split at e
  · split at e
    · rename_i hc
      cases e
      obtain ⟨v1, v2, e1, r1, r2⟩ := rd2 R
      cases e1; cases r1.int; cases r2.int
      exact .inl ⟨_, _, rfl, rfl, cmulB_iff.mp hc, q F H _ (new_scal l (by unfold Rep; rfl))⟩
    · cases e
  · split at e
    · rename_i hc
      cases e
      obtain ⟨v1, v2, e1, r1, r2⟩ := rd2 R
      cases e1; cases r2.int
      obtain ⟨a, vs, rfl, s1, q1⟩ := r1.items l
      exact .inr ⟨a, _, vs, rfl, rfl, s1, by omega, by omega, by rw [q1.length]; exact hc.2, fun p hp => q _ _ _ (new_lst l hp (q1.flatrep _))⟩
    · cases e
  · cases e
end
end PI

end

section
set_option maxRecDepth 100000
set_option maxHeartbeats 1000000
/-! Pi16: built-in calls, items, slices, pops, chains. -/
namespace PI
open PySem PySem.Spec PyProof.Rows L2
section
variable {X : Cx} {K : PySem.W.Frag}
theorem pc_abs : CallR X (.builtin "abs") (rPn X.K pabs) := call_abs.imp' fun vs H Q h => by
  obtain ⟨F, ds, res, l, R, e, hr, q⟩ := h
  unfold pabs at e; split at e
  · cases e
    obtain ⟨v1, rfl, r1⟩ := rd1 R
    cases r1.int
    exact ⟨_, rfl, q F H _ (new_scal l (by unfold Rep; rfl))⟩
  · cases e
theorem pc_int : CallR X (.type "int") (rPn X.K pint) := call_int1.imp' fun vs H Q h => by
  obtain ⟨F, ds, res, l, R, e, hr, q⟩ := h
  unfold pint at e; split at e
  · cases e
    obtain ⟨v1, rfl, r1⟩ := rd1 R
    cases r1.int
    exact .inl ⟨_, rfl, q F H _ (new_scal l (by unfold Rep; rfl))⟩
  · cases e
    obtain ⟨v1, rfl, r1⟩ := rd1 R
    cases r1.bl
    exact .inr ⟨_, rfl, q F H _ (new_scal l (by unfold Rep; rfl))⟩
  · cases e
theorem pc_min2 (hc : X.calm = true) : CallR X (.builtin "min") (rPn X.K pmin2) := (call_min2 hc).imp' fun vs H Q h => by
  obtain ⟨F, ds, res, l, R, e, hr, q⟩ := h
  unfold pmin2 at e; split at e
  · cases e
    obtain ⟨v1, v2, rfl, r1, r2⟩ := rd2 R
    cases r1.int; cases r2.int
    exact ⟨_, _, rfl, q F H _ (new_scal l (by unfold Rep; rfl))⟩
  · cases e
theorem pc_max2 (hc : X.calm = true) : CallR X (.builtin "max") (rPn X.K pmax2) := (call_max2 hc).imp' fun vs H Q h => by
  obtain ⟨F, ds, res, l, R, e, hr, q⟩ := h
  unfold pmax2 at e; split at e
  · cases e
    obtain ⟨v1, v2, rfl, r1, r2⟩ := rd2 R
    cases r1.int; cases r2.int
    exact ⟨_, _, rfl, q F H _ (new_scal l (by unfold Rep; rfl))⟩
  · cases e
theorem pc_len : CallR X (.builtin "len") (rPn X.K plen) := call_len.imp' fun vs H Q h => by
  obtain ⟨F, ds, res, l, R, e, hr, q⟩ := h
  unfold plen at e; split at e
  · cases e
    obtain ⟨v1, rfl, r1⟩ := rd1 R
    obtain ⟨a, ws, rfl, s, r⟩ := r1.titems
    exact ⟨_, ws.length, rfl, .inr ⟨ws, SqT.mono l s, rfl⟩, q F H _ (new_scal l (by rw [r.length]; unfold Rep; rfl))⟩
  · cases e
    obtain ⟨v1, rfl, r1⟩ := rd1 R
    obtain ⟨a, ws, rfl, s, r⟩ := r1.items l
    exact ⟨_, ws.length, rfl, .inl ⟨ws, SqL.of s, rfl⟩, q F H _ (new_scal l (by rw [r.length]; unfold Rep; rfl))⟩
  · cases e
    obtain ⟨v1, rfl, r1⟩ := rd1 R
    obtain ⟨a, ws, rfl, s, r⟩ := r1.sitems
    exact ⟨_, ws.length, rfl, .inl ⟨ws, SqL.mono l s, rfl⟩, q F H _ (new_scal l (by rw [r.length]; unfold Rep; rfl))⟩
  · split at e
    · rename_i hz
      cases e
      obtain ⟨v1, rfl, r1⟩ := rd1 R
      cases r1.str
      exact ⟨_, _, rfl, ⟨hz, rfl⟩, q F H _ (new_scal l (by unfold Rep; rfl))⟩
    · cases e
  · cases e
theorem pc_tuple : CallR X (.type "tuple") (rPn X.K ptuple) := call_tuple_of.imp' fun vs H Q h => by
  obtain ⟨F, ds, res, l, R, e, hr, q⟩ := h
  unfold ptuple at e; split at e
  · cases e
    obtain ⟨v1, rfl, r1⟩ := rd1 R
    obtain ⟨a, ws, rfl, s, r⟩ := r1.items l
    exact ⟨a, ws, rfl, .inl ⟨SqL.of s, fun p hp => q _ _ _ (new_tup l hp r)⟩⟩
  · cases e
    obtain ⟨v1, rfl, r1⟩ := rd1 R
    obtain ⟨a, ws, rfl, s, r⟩ := r1.titems
    exact ⟨a, ws, rfl, .inr ⟨SqT.mono l s, q F H _ (new_scal l ⟨a, ws, rfl, s, r⟩)⟩⟩
  · cases e
    obtain ⟨v1, rfl, r1⟩ := rd1 R
    obtain ⟨a, ws, rfl, s, r⟩ := r1.sitems
    exact ⟨a, ws, rfl, .inl ⟨SqL.mono l s, fun p hp => q _ _ _ (new_tup l hp r)⟩⟩
  · cases e
theorem pc_list : CallR X (.type "list") (rPn X.K plist) := call_list_of.imp' fun vs H Q h => by
  obtain ⟨F, ds, res, l, R, e, hr, q⟩ := h
  unfold plist at e; split at e
  · cases e
    obtain ⟨v1, rfl, r1⟩ := rd1 R
    obtain ⟨a, ws, rfl, s, r⟩ := r1.items l
    exact ⟨a, ws, rfl, .inl (SqL.of s), fun p hp => q _ _ _ (new_lst l hp r)⟩
  · cases e
    obtain ⟨v1, rfl, r1⟩ := rd1 R
    obtain ⟨a, ws, rfl, s, r⟩ := r1.titems
    exact ⟨a, ws, rfl, .inr (SqT.mono l s), fun p hp => q _ _ _ (new_lst l hp r)⟩
  · cases e
    obtain ⟨v1, rfl, r1⟩ := rd1 R
    obtain ⟨a, ws, rfl, s, r⟩ := r1.sitems
    exact ⟨a, ws, rfl, .inl (SqL.mono l s), fun p hp => q _ _ _ (new_lst l hp r)⟩
  · cases e
theorem bools_rep {F : Hp} : ∀ {ds : List D} {bs : List Bool} {vs : List V}, bools ds = some bs → RepAll K F ds vs → vs = bs.map V.bl
  | [], bs, vs, h, r => by cases h; exact r
  | .bl b :: ds, bs, vs, h, r => by
    obtain ⟨v, vr, rfl, h1, h2⟩ := r
    cases (show v = _ from h1)
    unfold bools at h
    cases q : bools ds with
    | none => rw [q] at h; cases h
    | some bs' => rw [q] at h; cases h; rw [bools_rep q h2]; rfl
  | .non :: _, _, _, h, _ => by cases h
  | .int _ :: _, _, _, h, _ => by cases h
  | .str _ :: _, _, _, h, _ => by cases h
  | .tup _ :: _, _, _, h, _ => by cases h
  | .lst _ :: _, _, _, h, _ => by cases h
  | .dct _ _ :: _, _, _, h, _ => by cases h
  | .set _ :: _, _, _, h, _ => by cases h
  | .exc _ _ :: _, _, _, h, _ => by cases h
  | .scr _ :: _, _, _, h, _ => by cases h
theorem pc_all (hc : X.calm = true) : CallR X (.builtin "all") (rPn X.K pall) := (cr_all hc).imp' fun vs H Q h => by
  obtain ⟨F, ds, res, l, R, e, hr, q⟩ := h
  unfold pall at e; split at e
  · rename_i xs
    cases z : bools xs with
    | none => rw [z] at e; cases e
    | some bs =>
      rw [z] at e; cases e
      obtain ⟨v1, rfl, r1⟩ := rd1 R
      obtain ⟨a, ws, rfl, s, r⟩ := r1.items l
      have := bools_rep z r
      subst this
      exact ⟨a, bs, rfl, SqL.of s, q F H _ (new_scal l (by unfold Rep; rfl))⟩
  · cases e
theorem pc_any (hc : X.calm = true) : CallR X (.builtin "any") (rPn X.K pany) := (cr_any hc).imp' fun vs H Q h => by
  obtain ⟨F, ds, res, l, R, e, hr, q⟩ := h
  unfold pany at e; split at e
  · rename_i xs
    cases z : bools xs with
    | none => rw [z] at e; cases e
    | some bs =>
      rw [z] at e; cases e
      obtain ⟨v1, rfl, r1⟩ := rd1 R
      obtain ⟨a, ws, rfl, s, r⟩ := r1.items l
      have := bools_rep z r
      subst this
      exact ⟨a, bs, rfl, SqL.of s, q F H _ (new_scal l (by unfold Rep; rfl))⟩
  · cases e
/-! ### items, slices -/
theorem rep_at {F : Hp} {ds : List D} {vs : List V} {i : Int} {d : D} (r : RepAll K F ds vs) (h : atI ds i = some d) : ∃ v, atI vs i = some v ∧ Rep K F d v := by
  unfold atI at h ⊢
  rw [r.length]
  cases q : ixN ds.length i with
  | none => rw [q] at h; cases h
  | some j =>
    rw [q] at h
    exact r.get h
theorem px_idx : IxR X (rP2 X.K pidx) := fun value slice pins s σ H x y v u Q I rx ry h hs => by
  refine ix_seq value slice pins s σ H x y v u Q I rx ry ?_ hs
  obtain ⟨F, ds, res, l, R, e, hr, q⟩ := h
  unfold pidx at e; split at e
  · rename_i xs i
    cases z : atI xs i with
    | none => rw [z] at e; cases e
    | some d =>
      rw [z] at e; cases e
      obtain ⟨v1, v2, e1, r1, r2⟩ := rd2 R
      cases e1; cases r2.int
      obtain ⟨a, ws, rfl, s, r⟩ := r1.titems
      obtain ⟨w, hw, rw'⟩ := rep_at r z
      exact .inr (.inl ⟨a, ws, i, w, rfl, rfl, SqT.mono l s, hw, q F H _ (new_scal l rw')⟩)
  · rename_i xs i
    cases z : atI xs i with
    | none => rw [z] at e; cases e
    | some d =>
      rw [z] at e; cases e
      obtain ⟨v1, v2, e1, r1, r2⟩ := rd2 R
      cases e1; cases r2.int
      obtain ⟨a, ws, rfl, s, r⟩ := r1.items l
      obtain ⟨w, hw, rw'⟩ := rep_at r z
      exact .inl ⟨a, ws, i, w, rfl, rfl, SqL.of s, hw, q F H _ (new_scal l rw')⟩
  · rename_i xs i
    cases z : atI xs i with
    | none => rw [z] at e; cases e
    | some d =>
      rw [z] at e; cases e
      obtain ⟨v1, v2, e1, r1, r2⟩ := rd2 R
      cases e1; cases r2.int
      obtain ⟨a, ws, rfl, s, r⟩ := r1.sitems
      obtain ⟨w, hw, rw'⟩ := rep_at r z
      exact .inl ⟨a, ws, i, w, rfl, rfl, SqL.mono l s, hw, q F H _ (new_scal l rw')⟩
  · cases e
theorem cut_rep {F : Hp} {ds : List D} {vs : List V} (r : RepAll K F ds vs) (lo hi : Option Int) : RepAll K F (cutD ds lo hi) (cutV vs lo hi) := by
  unfold cutD cutV
  rw [r.length]
  exact RepAll.take _ (RepAll.drop _ r)
theorem cut_whole {vs : List V} {lo hi : Option Int} (h : HT.sIx vs.length 0 lo = 0 ∧ HT.sIx vs.length vs.length hi = vs.length) : cutV vs lo hi = vs := by
  unfold cutV; rw [h.1, h.2]; simp
theorem ps_any : SlR X (fun x lo hi H Q => ∃ F d res, FLe F H ∧ Rdb X.K F H d x ∧ slD lo hi d = some res ∧ ∀ F' H' v, New X.K F H F' H' res v → Q v H') := by
  intro pins s σ H x v vl vu lo hi sl Q I rx hs pl pu h
  refine (SlR.or (SlR.or sl_list sl_tupA) sl_str) pins s σ H x v vl vu lo hi sl Q I rx hs pl pu ?_
  obtain ⟨F, d, res, l, r1, e, q⟩ := h
  cases d with
  | tup xs =>
    cases e
    obtain ⟨a, ws, rfl, s, r⟩ := r1.titems
    refine .inl (.inr ⟨a, ws, rfl, SqT.mono l s, fun w => ?_, fun w p hp => q _ _ _ (new_tup l hp (cut_rep r lo hi))⟩)
    have := cut_rep r lo hi
    rw [cut_whole w] at this
    exact q F H _ (new_scal l ⟨a, ws, rfl, s, this⟩)
  | lst xs =>
    cases e
    obtain ⟨a, ws, rfl, s, r⟩ := r1.items l
    exact .inl (.inl ⟨a, ws, rfl, SqL.of s, fun p hp => q _ _ _ (new_lst l hp (cut_rep r lo hi))⟩)
  | scr xs =>
    cases e
    obtain ⟨a, ws, rfl, s, r⟩ := r1.sitems
    exact .inl (.inl ⟨a, ws, rfl, SqL.mono l s, fun p hp => q _ _ _ (new_lst l hp (cut_rep r lo hi))⟩)
  | str x =>
    replace e : (if x.length ≤ sizeLine then some (Ent.fz (.str (cutS x lo hi))) else none) = some res := e
    split at e
    · rename_i hz
      cases e
      cases r1.str
      exact .inr ⟨_, rfl, hz, q F H _ (new_scal l (by unfold Rep; rfl))⟩
    · cases e
  | _ => cases e
variable {XC : Str → Value → Prop} {C : Calls} {W : WX} {a b c : Expr} {A B E1 : E} {pos p2 : Pos}
theorem se_idx (ha : PE X a (tO X.K XC C W A)) (hb : PE X b (tO X.K XC C W B)) (hs : PlainIx b := by intro _ _; rfl) : PE X (.Subscript a b pos) (tE X.K XC C W (.pn pidx [A, B])) := (pe_ix px_idx ha hb hs).imp' fun _ _ _ => t_bin
def tP (K : PySem.W.Frag) (XC : Str → Value → Prop) (C : Calls) (W : WX) (lo : List E) : TO := fun σ H Q => tM K XC W (evP C lo) (fun _ => []) (fun _ _ _ => True) σ H (fun o _ H => Q o H)
theorem _root_.L2.PO.imp' {e : Option Expr} {t t' : TO} (h : PO X e t) (i : ∀ σ H Q, t' σ H Q → t σ H Q) : PO X e t' := ⟨fun pins s σ H Q I q => h.run pins s σ H Q I (i _ _ _ q)⟩
theorem sp_none : PO X none (tP X.K XC C W []) := po_none.imp' fun σ H Q h => by
  obtain ⟨F, env, S, h⟩ := h
  rw [show evP C [] env = .ok none env from by unfold evP; rfl] at h
  exact h F H [] (Post.nil S) trivial
theorem sp_some (ha : PE X a (tE X.K XC C W A)) : PO X (some a) (tP X.K XC C W [A]) := (po_some ha).imp' fun σ H Q h => by
  refine tM_bind (m := ev C A) (f := intE) (peβ := fun _ => []) (okβ := fun _ _ _ => True) (Q := fun o _ H => Q o H) (by
    have : evP C [A] = fun e => (ev C A e).bind intE := by funext e; rw [evP]
    rw [← this]; exact h) fun F env F1 env1 r vs H1 S em P o g v ev_ => ?_
  obtain ⟨hr, v', rfl⟩ := o
  cases ev_
  cases e : intE r env1 with
  | ok i env2 =>
    rw [e] at g
    unfold intE at e
    split at e
    · rename_i i
      cases e
      exact ⟨i, P.st.lastEnt P.len hr, g F1 H1 [] (Post.of P.base P.bext) trivial⟩
    · cases e
  | ex c ps env2 => unfold intE at e; split at e <;> cases e
  | no => rw [e] at g; exact g.elim
theorem tM_pend {α β : Type} {m : En → Res α} {F F1 : Hp} {env env1 pe1 : En} {σ : L2.St} {H H1 : Hp} {vs1 : List V} {pe : α → En} {ok : α → L2.St → List V → Prop} {f : α → En → Res β} {p : β → En → Prop} {Q : α → List V → Hp → Prop} (P : Post X.K F env σ H F1 env1 pe1 vs1 H1)
    (h : ((m env1).bind f).wish p fun c ps env2 => exP X.K XC W F env σ H c ps env2)
    (g : ∀ F2 H2 x env2 ws, Post X.K F env σ H F2 env2 (pe1 ++ pe x) (vs1 ++ ws) H2 → ok x σ ws → (f x env2).wish p (fun c ps env2 => exP X.K XC W F env σ H c ps env2) → Q x ws H2) : tM X.K XC W m pe ok σ H1 Q := by
  refine tM_next (F := F) (env := env) (H := H) P ?_
  cases e : m env1 with
  | ok x env2 =>
    rw [e] at h
    exact fun F2 H2 ws P2 o => g F2 H2 x env2 ws (P.seq P2) o h
  | ex c ps env2 => rw [e] at h; exact h
  | no => rw [e] at h; exact h
theorem se_sl {lo hi : Option Expr} {Lo Hi : List E} (ha : PE X a (tO X.K XC C W A)) (hl : PO X lo (tP X.K XC C W Lo)) (hh : PO X hi (tP X.K XC C W Hi)) : PE X (.Subscript a (.Slice lo hi none p2) pos) (tE X.K XC C W (.sl A Lo Hi)) := (pe_slice ps_any ha hl hh).imp' fun σ H Q h => by
  refine tM_bind (m := opnd (ev C A) A) (f := fun x e => (evP C Lo e).bind fun l e => (evP C Hi e).bind fun h e => onSl l h (x.ent e) e) (peβ := fun r => [r]) (okβ := okR) (Q := one Q) (by
    have : ev C (.sl A Lo Hi) = fun e => (opnd (ev C A) A e).bind fun x e => (evP C Lo e).bind fun l e => (evP C Hi e).bind fun h e => onSl l h (x.ent e) e := by funext e; rw [ev]
    rw [← this]; exact h) fun F env F1 env1 x vs H1 S em P o g v ev_ => ?_
  obtain ⟨v', rfl, o⟩ := o
  cases ev_
  refine tM_pend P g fun F2 H2 l env2 ws P2 _ g2 => ?_
  refine tM_pend P2 g2 fun F3 H3 h env3 ws3 P3 _ g3 => ?_
  have e1 : ws = [] := by have := P2.pl; simp at this; exact this
  have e2 : ws3 = [] := by have := P3.pl; subst e1; simp at this; exact this
  subst e1 e2
  unfold onSl at g3
  cases q : (x.ent env3).d with
  | none => rw [q] at g3; exact g3.elim
  | some d =>
    rw [q] at g3
    dsimp only at g3
    have P4 : Post X.K F env σ H F3 env3 [x.pe] [v] H3 := by simpa using P3
    cases q2 : slD l h d with
    | none => rw [q2] at g3; exact g3.elim
    | some r =>
      rw [q2] at g3
      refine ⟨F3, d, r, P4.base.le, opd1 P4 o q, q2, fun F' H' v n => ?_⟩
      have hr : r ≠ .un := by
        cases d <;> simp only [slD] at q2 <;> (try split at q2) <;> cases q2 <;> simp
      cases r with
      | un => exact (hr rfl).elim
      | fz d => exact g3 F' H' [v] (P4.drop (Post.new P4.base n)) ⟨by simp, v, rfl⟩ v rfl
      | ow d => exact g3 F' H' [v] (P4.drop (Post.new P4.base n)) ⟨by simp, v, rfl⟩ v rfl
/-! ### isinstance -/
theorem tyx_of {H : Hp} {d : D} {v : V} {k : Cl} (r : Rep K H d v) (h : d.cl = some k) : TyX K H v (.type k.nm) := by
  cases d with
  | non => cases h; cases (show v = _ from r); exact .base .non
  | bl b => cases h; cases (show v = _ from r); exact .base (.bl b)
  | int i => cases h; cases (show v = _ from r); exact .base (.int i)
  | str x => cases h; cases (show v = _ from r); exact .base (.str x)
  | tup ds =>
    cases h
    obtain ⟨a, vs, rfl, s, _⟩ := r
    rcases s with (s | ⟨o, s⟩) | ⟨o, its, n, s, sc, _⟩
    · exact .base (.tup s)
    · exact .fTuple s
    · exact .kTuple s sc
  | lst ds =>
    cases h
    obtain ⟨a, vs, rfl, s, _⟩ := r
    exact .base (.lst s)
  | _ => cases h
theorem kit_cl {k c : Cl} : PySem.W.kitOne K (.type k.nm) (.type c.nm) = some (isC k c) := by
  refine kit_ty ?_
  cases k <;> cases c <;> decide +kernel
theorem kit_cls {k : Cl} : ∀ {cs : List Cl}, PySem.W.kitAny K (.type k.nm) (cs.map fun c => Value.type c.nm) = some (cs.any fun c => isC k c)
  | [] => rfl
  | c :: cs => by
    have h1 := kit_cl (K := K) (k := k) (c := c)
    have h2 := kit_cls (k := k) (cs := cs)
    show PySem.W.kitAny K _ (Value.type c.nm :: _) = _
    unfold PySem.W.kitAny
    rw [h1]
    cases q : isC k c with
    | true => simp [q]
    | false => simpa [q] using h2
/-- isinstance(e, c) -/
theorem se_isi1 {cn : Expr} {k : Cl} {p : Pos} {rest : List Expr} (hg : Gl X "isinstance") (hm : X.mg "isinstance" = none) (ha : PE X a (tO X.K XC C W A)) (hcn : PE X cn (tC (.ty k.nm)))
    (hs : starEach [a, cn] X.env = (false, eval a X.env) :: starEach [cn] X.env := by rfl) (hs2 : starEach [cn] X.env = (false, eval cn X.env) :: starEach [] X.env := by rfl) (hpl : (backTo pos (starEach [cn] X.env)).any (·.1) = false := by rfl) :
    PE X (.Call (.Name "isinstance" p) [a, cn] [] pos) (tE X.K XC C W (.pn (pisi [k]) [A])) := (pe_callB call_isi hg hm (by decide +kernel) (pa_cons ha (pa_cons hcn pa_nil hs2) hs) (by decide) (by decide) hs hpl).imp' fun σ H Q h => by
  have h2 := t_un h
  obtain ⟨F, env, S, h2⟩ := h2
  refine ⟨F, env, S, ?_⟩
  cases e : opnd (ev C A) A env with
  | no => rw [e] at h2; exact h2
  | ex c ps env1 => rw [e] at h2; exact h2
  | ok x env1 =>
    rw [e] at h2
    intro F' H' vs P o v ev_
    obtain ⟨F2, ds, res, l, R, e2, hr, q⟩ := h2 F' H' vs P o v ev_
    unfold pisi at e2
    split at e2
    · rename_i d
      cases z : d.cl with
      | none => rw [z] at e2; cases e2
      | some c =>
        rw [z] at e2
        simp only [Option.map_some, Option.some.injEq] at e2
        subst e2
        obtain ⟨v1, e1, r1⟩ := rd1 R
        cases e1
        refine ⟨v, .ty k.nm, .type c.nm, .type k.nm, isC c k, rfl, .ty _, tyx_of (r1.read l) z, kit_cl, q F2 H' _ (new_scal l ?_)⟩
        simp [Rep]
    · cases e2
/-- isinstance(e, (c1, c2, ..)) -/
theorem se_isiT {cn : List Expr} {cs : List Cl} {p pt : Pos} {kt : Nat} (hg : Gl X "isinstance") (hm : X.mg "isinstance" = none) (ha : PE X a (tO X.K XC C W A)) (hcn : PA X cn (fun _ H Q => Q (cs.map fun k => V.ty k.nm) H)) (hz : cs.length ≤ sizeLine := by decide)
    (hs : starEach [a, .Tuple cn kt pt] X.env = (false, eval a X.env) :: starEach [.Tuple cn kt pt] X.env := by rfl) (hs2 : starEach [.Tuple cn kt pt] X.env = (false, eval (.Tuple cn kt pt) X.env) :: starEach [] X.env := by rfl) (hpl : (backTo pos (starEach [.Tuple cn kt pt] X.env)).any (·.1) = false := by rfl) :
    PE X (.Call (.Name "isinstance" p) [a, .Tuple cn kt pt] [] pos) (tE X.K XC C W (.pn (pisi cs) [A])) := (pe_callB call_isiT hg hm (by decide +kernel) (pa_cons ha (pa_cons (pe_tup hcn) pa_nil hs2) hs) (by decide) (by decide) hs hpl).imp' fun σ H Q h => by
  have h2 := t_un h
  obtain ⟨F, env, S, h2⟩ := h2
  refine ⟨F, env, S, ?_⟩
  cases e : opnd (ev C A) A env with
  | no => rw [e] at h2; exact h2
  | ex c ps env1 => rw [e] at h2; exact h2
  | ok x env1 =>
    rw [e] at h2
    intro F' H' vs P o v ev_
    obtain ⟨F2, ds, res, l, R, e2, hr, q⟩ := h2 F' H' vs P o v ev_
    unfold pisi at e2
    split at e2
    · rename_i d
      cases z : d.cl with
      | none => rw [z] at e2; cases e2
      | some c =>
        rw [z] at e2
        simp only [Option.map_some, Option.some.injEq] at e2
        subst e2
        obtain ⟨v1, e1, r1⟩ := rd1 R
        cases e1
        refine ⟨by simpa using hz, fun tp htp => ?_⟩
        have same : Same H' (upd H' tp (.tup (cs.map fun k => V.ty k.nm))) := same_upd' htp
        have le2 : FLe H' (upd H' tp (.tup (cs.map fun k => V.ty k.nm))) := same
        refine ⟨v, tp, cs.map fun k => V.ty k.nm, .type c.nm, cs.map fun k => Value.type k.nm, cs.any fun k => isC c k, rfl, upd_same, ?_, tyx_of (Rep.mono le2 _ _ (r1.read l)) z, kit_cls, q F2 _ _ ?_⟩
        · clear hcn hz hs hs2 hpl h h2 q same le2 hr
          induction cs with
          | nil => exact .nil
          | cons c cs ih => exact .cons (.ty _) ih
        · exact { le := FLe.refl, le' := l.trans le2, same := same, new := fun _ _ h h' => by rw [h] at h'; cases h'
                  ent := by simp [EntOk, Rep], own := fun _ h => by cases h }
    · cases e2
theorem pcl {x : Str} {k : Cl} {p : Pos} (hg : Gl X x) (hm : X.mg x = none) (hv : bootBuiltins x = some (.type k.nm)) (hn : x ≠ "__name__" := by decide) (hd : (x == ("__debug__" : Str)) = false := by decide) : PE X (.Name x p) (tC (.ty k.nm)) := pe_bltn hg hm hv rfl hn hd
theorem pcls_nil : PA X [] (fun _ H Q => Q (([] : List Cl).map fun k => V.ty k.nm) H) := pa_nil
theorem pcls_cons {e : Expr} {es : List Expr} {k : Cl} {ks : List Cl} (h : PE X e (tC (.ty k.nm))) (t : PA X es (fun _ H Q => Q (ks.map fun k => V.ty k.nm) H)) (hs : starEach (e :: es) X.env = (false, eval e X.env) :: starEach es X.env := by rfl) : PA X (e :: es) (fun _ H Q => Q ((k :: ks).map fun k => V.ty k.nm) H) := (pa_cons h t hs).imp' fun _ _ _ q => q
end
end PI

end

section
set_option maxRecDepth 100000
set_option maxHeartbeats 1000000
/-! Pi17: pops, chains, raises; a def's rule. -/
namespace PI
open PySem PySem.Spec PyProof.Rows L2
section
variable {X : Cx} {XC : Str → Value → Prop} {C : Calls} {W : WX} {pw : List Nat} {K : PySem.W.Frag}
variable {e a b c xe : Expr} {A B E1 : E} {pos cpos apos : Pos} {i : Nat}
theorem popLast_ok {ds : List D} {e e' : En} {r : Ent} (h : popLast i ds e = .ok r e') : ∃ d, r = .fz d ∧ ds[ds.length - 1]? = some d ∧ e' = e.set i (.ow (.lst ds.dropLast)) := by
  unfold popLast at h
  split at h
  · cases h; exact ⟨_, rfl, by assumption, rfl⟩
  · cases h
/-- x.pop() -/
theorem se_popL (hx : PE X xe (tVar i)) (pr : ∀ {tx : TE}, PE X xe tx → PE X (.Call (.Attribute xe "pop" apos) [] [] cpos) (tBM0 X.K "list" rPop tx)) : PE X (.Call (.Attribute xe "pop" apos) [] [] cpos) (tE X.K XC C W (.popL i)) := (pr hx).imp' fun σ H Q h => by
  obtain ⟨F, env, S, h⟩ := h
  rw [ev] at h
  cases q : ownL env i with
  | none => rw [q] at h; exact h.elim
  | some ds =>
    rw [q] at h
    dsimp only at h
    cases q2 : popLast i ds env with
    | no => rw [q2] at h; exact h.elim
    | ex c ps e2 => unfold popLast at q2; split at q2 <;> cases q2
    | ok r e2 =>
      rw [q2] at h
      obtain ⟨d, rfl, hd, rfl⟩ := popLast_ok q2
      obtain ⟨p, vs, h1, h2, h3⟩ := S.ownAt (ownL_some q)
      obtain ⟨v, hv, rv⟩ := h3.get hd
      rw [← h3.length] at hv
      obtain ⟨S2, x2⟩ := S.writeAt (ownL_some q) h1 h3.dropLast
      exact ⟨.ref p, h1, .inl ⟨rfl, vs, SqL.of h2⟩, p, vs, v, rfl, rfl, h2, hv, h _ _ [v] (Post.then S2 x2 (Post.new S2 (new_scal S2.le rv))) ⟨by simp, v, rfl⟩ v rfl⟩
/-- x.pop(ix) -/
theorem se_popA (hx : PE X xe (tVar i)) (hi : PE X e (tE X.K XC C W A)) (pr : ∀ {tx : TE} {t : TA}, PE X xe tx → PA X [e] t → PE X (.Call (.Attribute xe "pop" apos) [e] [] cpos) (tBM X.K "list" rPopAt tx t)) (hs : starEach [e] X.env = (false, eval e X.env) :: starEach [] X.env := by rfl) :
    PE X (.Call (.Attribute xe "pop" apos) [e] [] cpos) (tE X.K XC C W (.popA i A)) := (pr hx (pa_cons hi pa_nil hs)).imp' fun σ H Q h => by
  obtain ⟨F, env, S, h⟩ := h
  rw [ev] at h
  cases q : ownL env i with
  | none => rw [q] at h; exact h.elim
  | some ds0 =>
    rw [q] at h
    dsimp only at h
    obtain ⟨p, vs0, h1, h2, _⟩ := S.ownAt (ownL_some q)
    refine ⟨.ref p, h1, .inl ⟨rfl, vs0, SqL.of h2⟩, F, env, S, ?_⟩
    cases e1 : ev C A env with
    | no => rw [e1] at h; exact h
    | ex c ps env1 => rw [e1] at h; exact h
    | ok r env1 =>
      rw [e1] at h
      intro F1 H1 vs P o w ew
      obtain ⟨hr, w', rfl⟩ := o
      cases ew
      replace h : (popAt i r env1).wish (fun r env' => ∀ F' H' vs, Post X.K F env σ H F' env' [r] vs H' → okR r σ vs → one Q r vs H') fun c ps env' => exP X.K XC W F env σ H c ps env' := h
      unfold popAt at h
      split at h
      · rename_i k ds qk
        split at h
        · rename_i hk
          split at h
          · rename_i j hj
            split at h
            · rename_i d hd
              obtain ⟨p', vs1, h3, h4, h5⟩ := P.base.ownAt (ownL_some qk)
              rw [h1] at h3; cases h3
              obtain ⟨v, hv, rv⟩ := h5.get hd
              have rk : w = .int k := P.st.lastEnt P.len (by simp)
              subst rk
              obtain ⟨S2, x2⟩ := P.base.writeAt (ownL_some qk) h1 (h5.eraseIdx j)
              exact ⟨p, vs1, k, j, v, rfl, rfl, h4, by omega, by omega, by rw [h5.length]; exact hj, hv, h _ _ [v] (Post.then S2 (P.bext.trans x2) (Post.new S2 (new_scal S2.le rv))) ⟨by simp, v, rfl⟩ v rfl⟩
            · exact h.elim
          · exact h.elim
        · exact h.elim
      · exact h.elim
/-! ### a def -/
/-- the evaluator's table and its names; what a body's derivation is asked -/
structure FnCx (P : Program) (w : World) (K : PySem.W.Frag) (mg : Str → Option Value) (base : Heap) (XC : Str → Value → Prop) (C : Calls) (k : Nat) (names : List Str) : Prop where
  at_ : ∀ (i : Nat) (x : Str), names[i]? = some x → DefAt P w K mg base XC C k x i
/-- one def: its promise from its body's derivation -/
theorem def_ok {P : Program} {w : World} {K : PySem.W.Frag} {mg : Str → Option Value} {base : Heap} {XC : Str → Value → Prop} {tbl : List FD} {k f : Nat} {fd' : FD} {x qual : Str} {params : Arguments} {body : List Stmt} {scope : Scope} {fa : Addr} {fd : FuncData} {N ps : List Str}
    (D0 : FunD K x qual params body scope [] [] fa fd) (S : FnScope N ps scope) (hf : tbl[f]? = some fd') (hnp : fd'.np = ps.length) (hnl : fd'.nl = N.length) (hle : ps.length ≤ N.length) (hpw : ∀ i ∈ fd'.pw, i < fd'.np)
    (hbody : ∀ (cdv : Value) (A : Around) (outer : List Env) (s : Shared) (H : Hp) (E : XK), Room k (A.deeper (envOfC qual scope s.heap.objs.size fa cdv)) →
      PSs (cxOf (L2.CX P w) P w K mg base N qual scope fa cdv A outer s H E) body (tSs K XC (run tbl k) (fun cls d _ H => E cls d H) fd'.pw fd'.body)) :
    FnOk P w K mg base (L2.CX P w) (k + 1) fa fd ps (spI K XC (run tbl (k + 1)) f) := by
  refine D0.ok S (fun vs H Q E h => ?_) (fun cdv A outer s H vs Q E hr h => ⟨_, hbody cdv A outer s H E hr, ?_⟩)
  · obtain ⟨F, args, St', h⟩ := h
    unfold run at h
    rw [hf] at h
    dsimp only at h
    split at h
    · rename_i r outs hh
      split at hh
      · rename_i hl
        have := St'.len
        simp at this
        omega
      · cases hh
    · rename_i hh
      split at hh
      · rename_i hl
        have := St'.len
        simp at this
        omega
      · cases hh
    · exact h.elim
  · obtain ⟨F, args, S0, h⟩ := h
    unfold run at h
    rw [hf] at h
    dsimp only at h
    by_cases hl : args.length = fd'.np
    · rw [if_pos hl] at h
      have hlv : vs.length = args.length := by have := S0.len; simp at this; exact this.symm
      have S1 := S0.rel (env' := args ++ List.replicate (fd'.nl - fd'.np) .un) (σ' := L2.start N vs) (fun i k => i = k) (by simp [L2.start]; omega) (fun i j k h1 h2 => h1.trans h2.symm) (fun i r e hr' => by
        by_cases hi : i < args.length
        · rw [List.getElem?_append_left hi] at e
          refine ⟨i, rfl, e, fun v ev_ => ?_⟩
          unfold L2.start
          rw [List.getElem?_append_left (by simp; omega)]; exact ev_
        · rw [List.getElem?_append_right (by omega), List.getElem?_replicate] at e
          split at e
          · cases e; exact (hr' rfl).elim
          · cases e)
      refine ⟨F, _, S1.1, ?_⟩
      -- behind the body
      have fin : ∀ (e : En) (pe : En) (rv : List V) (F' H' : Hp) (σ' : L2.St), St K F' (e ++ pe) (σ' ++ rv.map some) H' → Ext F (args ++ List.replicate (fd'.nl - fd'.np) .un) (L2.start N vs) H F' (e ++ pe) (σ' ++ rv.map some) H' → e.length = σ'.length → pe.length = rv.length → SamePw fd'.pw (L2.start N vs) σ' →
          St K F' (outsOf fd' e ++ pe) (vs.map some ++ rv.map some) H' ∧ Ext F args (vs.map some) H F' (outsOf fd' e ++ pe) (vs.map some ++ rv.map some) H' := by
        intro e pe rv F' H' σ' S2 x2 le lp sp
        have lo : (outsOf fd' e).length = vs.length := by simp [outsOf]; omega
        obtain ⟨S3, x3⟩ := S2.rel (env' := outsOf fd' e ++ pe) (σ' := vs.map some ++ rv.map some) (fun i k => (i < vs.length ∧ k = i ∧ i < e.length) ∨ (vs.length ≤ i ∧ k = e.length + (i - vs.length))) (by simp [lo, lp]) (by
          rintro i j k (⟨z1, z2, z3⟩ | ⟨z1, z2⟩) (⟨y1, y2, y3⟩ | ⟨y1, y2⟩) <;> omega) (fun i r er hr' => by
          by_cases hi : i < vs.length
          · rw [List.getElem?_append_left (by omega)] at er
            have hi2 : i < fd'.np := by omega
            simp only [outsOf, List.getElem?_map, List.getElem?_range hi2, Option.map_some, Option.some.injEq] at er
            split at er
            · rename_i hm
              cases q : e[i]? with
              | none => rw [q] at er; exact (hr' er.symm).elim
              | some u =>
                rw [q] at er; simp at er; subst er
                have hie := (List.getElem?_eq_some_iff.mp q).1
                refine ⟨i, .inl ⟨hi, rfl, hie⟩, by rw [List.getElem?_append_left hie]; exact q, fun v ev_ => ?_⟩
                rw [List.getElem?_append_left (by omega), sp i hm] at ev_
                unfold L2.start at ev_
                rw [List.getElem?_append_left (by simpa using hi)] at ev_
                rw [List.getElem?_append_left (by simpa using hi)]; exact ev_
            · exact (hr' er.symm).elim
          · rw [List.getElem?_append_right (by omega), lo] at er
            refine ⟨e.length + (i - vs.length), .inr ⟨by omega, rfl⟩, by rw [List.getElem?_append_right (by omega), Nat.add_sub_cancel_left]; exact er, fun v ev_ => ?_⟩
            rw [List.getElem?_append_right (by omega), le, Nat.add_sub_cancel_left] at ev_
            rw [List.getElem?_append_right (by simp; omega), List.length_map]; exact ev_)
        exact ⟨S3, (S1.2.trans x2).trans x3⟩
      cases e : execs (run tbl k) fd'.pw fd'.body (args ++ List.replicate (fd'.nl - fd'.np) .un) with
      | nx e1 =>
        rw [e] at h
        intro F' H' σ' S2 x2 sp
        obtain ⟨S3, x3⟩ := S2.new (new_scal (d := .non) (v := .non) S2.le (by unfold Rep; rfl))
        obtain ⟨S4, x4⟩ := fin e1 [.fz .non] [.non] F' H' σ' (by simpa using S3) (x2.trans (by simpa using x3)) S2.len rfl sp
        exact h (by simp) F' H' .non (by simpa using S4) (by simpa using x4)
      | rt r e1 =>
        rw [e] at h
        intro hr' F' H' σ' v S2 x2 le sp
        obtain ⟨S4, x4⟩ := fin e1 [r] [v] F' H' σ' (by simpa using S2) (by simpa using x2) le rfl sp
        exact h hr' F' H' v (by simpa using S4) (by simpa using x4)
      | ex c ps e1 =>
        rw [e] at h
        intro F' H' σ' cls dx S2 x2 sp z
        obtain ⟨S4, x4⟩ := fin e1 [] [] F' H' σ' (by simpa using S2) (by simpa using x2) S2.len rfl sp
        exact h F' H' cls dx (by simpa using S4) (by simpa using x4) z
      | bk e1 => rw [e] at h; exact h.elim
      | ct e1 => rw [e] at h; exact h.elim
      | no => rw [e] at h; exact h.elim
    · rw [if_neg hl] at h; exact h.elim
/-- at no level nothing is promised -/
theorem def_zero {P : Program} {w : World} {K : PySem.W.Frag} {mg : Str → Option Value} {base : Heap} {XC : Str → Value → Prop} {tbl : List FD} {f : Nat} {fa : Addr} {fd : FuncData} {ps : List Str} : FnOk P w K mg base (L2.CX P w) 0 fa fd ps (spI K XC (run tbl 0) f) :=
  ⟨fun vs H Q E h => by obtain ⟨F, args, _, h⟩ := h; unfold run at h; exact h.elim, fun A outer s H args us vs Q E hr he hb hv h => by obtain ⟨F, args, _, h⟩ := h; unfold run at h; exact h.elim⟩
end
end PI

end

section
set_option maxRecDepth 100000
set_option maxHeartbeats 1000000
/-! Pi18: all defs of a table. -/
namespace PI
open PySem PySem.Spec PyProof.Rows L2
section
variable {P : Program} {w : World} {K : PySem.W.Frag} {mg : Str → Option Value} {base : Heap} {XC : Str → Value → Prop} {C : Calls} {k : Nat}
def AllAt (P : Program) (w : World) (K : PySem.W.Frag) (mg : Str → Option Value) (base : Heap) (XC : Str → Value → Prop) (C : Calls) (k : Nat) : List Str → Nat → Prop
  | [], _ => True
  | x :: xs, i => DefAt P w K mg base XC C k x i ∧ AllAt P w K mg base XC C k xs (i + 1)
theorem AllAt.get : ∀ {xs : List Str} {n i : Nat} {x : Str}, AllAt P w K mg base XC C k xs n → xs[i]? = some x → DefAt P w K mg base XC C k x (n + i)
  | [], n, i, x, h, e => by simp at e
  | y :: ys, n, 0, x, h, e => by simp at e; subst e; exact h.1
  | y :: ys, n, i + 1, x, h, e => by
    have := AllAt.get (n := n + 1) (i := i) h.2 (by simpa using e)
    rw [show n + (i + 1) = n + 1 + i by omega]; exact this
theorem FnCx.of {names : List Str} (h : AllAt P w K mg base XC C k names 0) : FnCx P w K mg base XC C k names := ⟨fun i x e => by
  have := h.get e
  rw [Nat.zero_add] at this; exact this⟩
end
/-- what the head tells of a def -/
structure DefF (K : PySem.W.Frag) (mg : Str → Option Value) (x : Str) (st : Stmt) (ps : List Str) : Prop where
  ex : ∃ (fa : Addr) (fd : FuncData), FunD K x x (defArgs st) (defBody st) (defScope st) [] [] fa fd ∧ mg x = some (.ref fa) ∧ Binds K fd ps []
section
variable {P : Program} {w : World} {K : PySem.W.Frag} {mg : Str → Option Value} {base : Heap} {XC : Str → Value → Prop} {tbl : List FD} {k f : Nat} {fd' : FD} {x : Str} {st : Stmt} {N ps : List Str}
theorem at_zero (D : DefF K mg x st ps) : DefAt P w K mg base XC (run tbl 0) 0 x f := by
  obtain ⟨fa, fd, F, hm, hb⟩ := D.ex
  exact ⟨fa, fd, ps, def_zero, hm, F.kp, hb⟩
theorem at_succ (D : DefF K mg x st ps) (S : FnScope N ps (defScope st)) (hf : tbl[f]? = some fd') (hnp : fd'.np = ps.length) (hnl : fd'.nl = N.length) (hle : ps.length ≤ N.length) (hpw : ∀ i ∈ fd'.pw, i < fd'.np)
    (hbody : ∀ (fa : Addr) (cdv : Value) (A : Around) (outer : List Env) (s : Shared) (H : Hp) (E : XK), Room k (A.deeper (envOfC x (defScope st) s.heap.objs.size fa cdv)) →
      PSs (cxOf (L2.CX P w) P w K mg base N x (defScope st) fa cdv A outer s H E) (defBody st) (tSs K XC (run tbl k) (fun cls d _ H => E cls d H) fd'.pw fd'.body)) : DefAt P w K mg base XC (run tbl (k + 1)) (k + 1) x f := by
  obtain ⟨fa, fd, F, hm, hb⟩ := D.ex
  exact ⟨fa, fd, ps, def_ok F S hf hnp hnl hle hpw (hbody fa), hm, F.kp, hb⟩
/-- the law's own promise, from the evaluator's answer -/
theorem law_sp {K : PySem.W.Frag} {XC : Str → Value → Prop} {C : Calls} {f : Nat} {H : Hp} {a : Addr} {ns : List Int} {Q : VK} {E : XK} (hS : SqL K H a (ns.map V.int)) {outs : En} (h : C f [.fz (.scr (ns.map D.int))] = .ok (.fz (.bl true)) outs) (q : ∀ H', Q (.bl true) H') : spI K XC C f [.ref a] H Q E := by
  have rep : ∀ (F : Hp) (ns : List Int), RepAll K F (ns.map D.int) (ns.map V.int) := fun F ns => by
    induction ns with
    | nil => exact RepAll.nil
    | cons n ns ih => exact RepAll.cons (by unfold Rep; rfl) ih
  refine ⟨H, [.fz (.scr (ns.map D.int))], ⟨rfl, FLe.refl, fun i r e hr => ?_, fun i j d e a h1 h2 _ _ => ?_⟩, ?_⟩
  · cases i with
    | zero =>
      simp at e; subst e
      exact ⟨.ref a, rfl, a, ns.map V.int, rfl, hS, rep H ns⟩
    | succ i => simp at e
  · cases i with
    | zero => simp at h1
    | succ i => simp at h1
  · rw [h]
    intro _ F' H' v S' x
    have lo : outs.length = 1 := by have := S'.len; simp at this; exact this
    obtain ⟨v', e1, e2⟩ := S'.ent 1 (.fz (.bl true)) (by rw [List.getElem?_append_right (by omega), lo]; rfl) (by simp)
    have ev : v = .bl true := by
      have : v = v' := by simpa using e1
      rw [this]; exact e2
    subst ev
    exact q H'
end
/-- the law's walk from its def's promise: what the defs may raise hangs on the world -/
theorem walk_ofEX {law : PySem.W.OpenLaw} {most lev : Nat} {view : Program} {names : List Str} {Xp : (Str → Option Value) → Heap → Prop} {Yp : World → Heap → Prop} {rec : DefRec} {cx : World → CXT} {par : Str}
    (hm : law.most = some most) (hs : most ≤ sizeLine) (hd : rec.params.defaults = []) (room : Room lev callerA)
    (facts : ∀ (w : World) (mg : Str → Option Value) (fa : Addr) (g : Heap), Yp w g → g.Ns mainGlobals mg → mg rec.name = some (.ref fa) →
      ∃ (K : PySem.W.Frag) (fd : FuncData) (sp : Sp), K.In g ∧ (∀ (z : Shared) (v : Value), BindsTo z fd ⟨[v], []⟩ [(par, v)]) ∧
        (∀ (G : Hp) (a : Addr) (is : List Int), is.length ≤ most → Only G → SqL K G a (is.map V.int) → sp [.ref a] G (fun x _ => x = .bl true) fun _ _ _ => False) ∧
        ∀ ground : Heap, K.In ground → ground.Ns mainGlobals mg → FnOk law.prog w K mg ground (cx w) lev fa fd [par] sp)
    (shut : ∀ (w : World) (G : Hp) (z : Shared) (e : Value) (z' : Shared), cx w [] G z (fun _ _ _ => False) e z' → False) :
    PySem.W.WalkO view names Xp Yp law.row.toRowW rec [] (fun f vs => PySem.call f vs) :=
  Att.attach_call hm hd fun w _ z mg mb fa ob pm cd doc a vs is G Y _ _ _ hmg hobj hints hlen hg =>
    let ⟨_, _, _, kx, hb, hsp, hf⟩ := facts w mg fa _ Y G.T.g hmg
    law_call kx G.T.g G.T.b G.T.builtins G.T.nolimit hg hobj hints (Nat.le_trans hlen hs) room hf hb (fun G1 only hS => hsp G1 a is hlen only hS) fun G1 e z' => shut w G1 z e z'
theorem cx_none {P : Program} {w : World} {H : Hp} {s : Shared} {e : Value} {s' : Shared} (h : L2.CX P w [] H s (fun _ _ _ => False) e s') : False := by
  obtain ⟨_, _, _, _, _, _, _, _, _, _, _, _, z⟩ := h
  exact z
end PI

end

section
set_option maxRecDepth 100000
set_option maxHeartbeats 1000000
/-! PiS: the evaluator's equations, for simp. -/
namespace PI
open PySem.Spec
variable {C : Calls} {pw : List Nat} {e : En}
@[simp] theorem ev_lit {d} : ev C (.lit d) e = .ok (.fz d) e := by rw [ev]
@[simp] theorem ev_con {d} : ev C (.con d) e = .ok (.fz d) e := by rw [ev]
/-- a name's value -/
def nameV (r : Option Ent) (i : Nat) (e : En) : Res Ent :=
  match r with
  | some (.fz d) => .ok (.fz d) e
  | some (.ow d) => .ok (.fz d) (e.set i (.fz d))
  | _ => .no
@[simp] theorem nameV_fz {d i} : nameV (some (.fz d)) i e = .ok (.fz d) e := rfl
@[simp] theorem nameV_ow {d i} : nameV (some (.ow d)) i e = .ok (.fz d) (e.set i (.fz d)) := rfl
@[simp] theorem ev_var {i} : ev C (.var i) e = nameV e[i]? i e := by rw [ev]; rfl
def tupR (ds : List D) (e : En) : Res Ent := if ds.length ≤ PySem.sizeLine then .ok (.fz (.tup ds)) e else .no
def lstR (ds : List D) (e : En) : Res Ent := if ds.length ≤ PySem.sizeLine then .ok (.ow (.lst ds)) e else .no
@[simp] theorem ev_tup {es} : ev C (.tup es) e = (evs C es e).bind tupR := by rw [ev]; rfl
@[simp] theorem ev_lst {es} : ev C (.lst es) e = (evs C es e).bind lstR := by rw [ev]; rfl
@[simp] theorem ev_pn {f es} : ev C (.pn f es) e = (evOs C es e).bind fun xs e => onD f (allD e xs) e := by rw [ev]
@[simp] theorem ev_and {a b} : ev C (.and a b) e = (ev C a e).bind fun r e => (onB r e).bind fun t e => if t = true then ev C b e else .ok r e := by rw [ev]
@[simp] theorem ev_or {a b} : ev C (.or a b) e = (ev C a e).bind fun r e => (onB r e).bind fun t e => if t = true then .ok r e else ev C b e := by rw [ev]
@[simp] theorem ev_not {a} : ev C (.not a) e = (opnd (ev C a) a e).bind fun x e => (onB (x.ent e) e).bind fun b e => .ok (.fz (.bl (!b))) e := by rw [ev]
@[simp] theorem ev_ite {c a b} : ev C (.ite c a b) e = (evT C c e).bind fun t e => if t = true then ev C a e else ev C b e := by rw [ev]
@[simp] theorem ev_chain {f g a b c} : ev C (.chain f g a b c) e = (opnd (ev C a) a e).bind fun x e => (opnd (ev C b) b e).bind fun y e => (onD f (allD e [x, y]) e).bind fun r e => (boolE r e).bind fun t e =>
      if t = true then (opnd (ev C c) c e).bind fun z e => onD g (allD e [y, z]) e else .ok (.fz (.bl false)) e := by rw [ev]
@[simp] theorem ev_call {f ms es} : ev C (.call f ms es) e = (evAs C es ms e).bind fun xs e => callWith C f xs e := by rw [ev]
def compR (own : List Nat) (tg : Tg) (test : En → Res Bool) (elt : En → Res D) (e : En) (o : Option (List D)) : Res Ent :=
  match o with
  | none => .no
  | some xs => (compLoop tg own test elt xs [] e).bind fun ds e' => .ok (.ow (.lst ds)) (backE e e' own)
@[simp] theorem ev_comp {own tg ik ies cs elt} : ev C (.comp own tg ik ies cs elt) e = (evs C ies e).bind fun ds e => compR own tg (evTs C cs) (frozen (ev C elt)) e (ik ds) := by
  rw [ev]; congr 1; try (funext ds e; cases ik ds <;> rfl)
@[simp] theorem compR_some {own tg test elt xs} : compR own tg test elt e (some xs) = (compLoop tg own test elt xs [] e).bind fun ds e' => .ok (.ow (.lst ds)) (backE e e' own) := rfl
def onO {α β : Type} (o : Option α) (f : α → Res β) : Res β :=
  match o with
  | some a => f a
  | none => .no
@[simp] theorem onO_some {α β : Type} {a : α} {f : α → Res β} : onO (some a) f = f a := rfl
@[simp] theorem ev_popL {i} : ev C (.popL i) e = onO (ownL e i) fun ds => popLast i ds e := by rw [ev]; cases ownL e i <;> rfl
@[simp] theorem ev_popA {i ix} : ev C (.popA i ix) e = onO (ownL e i) fun _ => (ev C ix e).bind fun r e => popAt i r e := by rw [ev]; cases ownL e i <;> rfl
@[simp] theorem ev_sl {a lo hi} : ev C (.sl a lo hi) e = (opnd (ev C a) a e).bind fun x e => (evP C lo e).bind fun l e => (evP C hi e).bind fun h e => onSl l h (x.ent e) e := by rw [ev]
@[simp] theorem evP_nil : evP C [] e = .ok none e := by rw [evP]
@[simp] theorem evP_cons {a as} : evP C (a :: as) e = (ev C a e).bind intE := by rw [evP]
@[simp] theorem intE_int {i} : intE (.fz (.int i)) e = .ok (some i) e := rfl
@[simp] theorem onSl_fz {lo hi d} : onSl lo hi (.fz d) e = retE (slD lo hi d) e := rfl
@[simp] theorem onSl_ow {lo hi d} : onSl lo hi (.ow d) e = retE (slD lo hi d) e := rfl
@[simp] theorem slD_tup {lo hi xs} : slD lo hi (.tup xs) = some (.fz (.tup (cutD xs lo hi))) := rfl
@[simp] theorem slD_lst {lo hi xs} : slD lo hi (.lst xs) = some (.ow (.lst (cutD xs lo hi))) := rfl
@[simp] theorem slD_scr {lo hi xs} : slD lo hi (.scr xs) = some (.ow (.lst (cutD xs lo hi))) := rfl
@[simp] theorem evs_nil : evs C [] e = .ok [] e := by rw [evs]
@[simp] theorem evs_cons {a as} : evs C (a :: as) e = (frozen (ev C a) e).bind fun d e => (evs C as e).bind fun ds e => .ok (d :: ds) e := by rw [evs]
@[simp] theorem evOs_nil : evOs C [] e = .ok [] e := by rw [evOs]
@[simp] theorem evOs_cons {a as} : evOs C (a :: as) e = (opnd (ev C a) a e).bind fun x e => (evOs C as e).bind fun xs e => .ok (x :: xs) e := by rw [evOs]
@[simp] theorem evAs_nil {ms} : evAs C [] ms e = .ok [] e := by rw [evAs]
@[simp] theorem evAs_own {a as ms} : evAs C (a :: as) (true :: ms) e = (opnd (ev C a) a e).bind fun x e => (evAs C as ms e).bind fun xs e => .ok (x :: xs) e := by rw [evAs]; rfl
@[simp] theorem evAs_val {a as ms} : evAs C (a :: as) (false :: ms) e = (frozen (ev C a) e).bind fun d e => (evAs C as ms e).bind fun xs e => .ok (.vl (.fz d) :: xs) e := by
  rw [evAs]; simp only [List.headD_cons, List.tail_cons]
  cases frozen (ev C a) e <;> rfl
@[simp] theorem evT_e {a} : evT C (.e a) e = (opnd (ev C a) a e).bind fun x e => onB (x.ent e) e := by rw [evT]
@[simp] theorem evT_and {a b} : evT C (.and a b) e = (evT C a e).bind fun c e => if c = true then evT C b e else .ok false e := by rw [evT]
@[simp] theorem evT_or {a b} : evT C (.or a b) e = (evT C a e).bind fun c e => if c = true then .ok true e else evT C b e := by rw [evT]
@[simp] theorem evT_not {a} : evT C (.not a) e = (evT C a e).bind fun c e => .ok (!c) e := by rw [evT]
@[simp] theorem evTs_nil : evTs C [] e = .ok true e := by rw [evTs]
@[simp] theorem evTs_one {a} : evTs C [a] e = evT C a e := by
  simp only [evTs]
  cases evT C a e with
  | ok b e1 => cases b <;> rfl
  | ex => rfl
  | no => rfl
/-- operands -/
def nameO (r : Option Ent) (i : Nat) (e : En) : Res Opd :=
  match r with
  | some (.fz d) => .ok (.vl (.fz d)) e
  | some (.ow _) => .ok (.sl i) e
  | _ => .no
@[simp] theorem nameO_fz {d i} : nameO (some (.fz d)) i e = .ok (.vl (.fz d)) e := rfl
@[simp] theorem nameO_ow {d i} : nameO (some (.ow d)) i e = .ok (.sl i) e := rfl
@[simp] theorem opnd_var {m i} : opnd m (.var i) e = nameO e[i]? i e := rfl
def toO (r : Ent) (e : En) : Res Opd := .ok (.vl r) e
@[simp] theorem toO_eq {r} : toO r e = .ok (.vl r) e := rfl
@[simp] theorem opnd_lit {m d} : opnd m (.lit d) e = (m e).bind toO := rfl
@[simp] theorem opnd_con {m d} : opnd m (.con d) e = (m e).bind toO := rfl
@[simp] theorem opnd_tup {m d} : opnd m (.tup d) e = (m e).bind toO := rfl
@[simp] theorem opnd_lst {m d} : opnd m (.lst d) e = (m e).bind toO := rfl
@[simp] theorem opnd_pn {m f es} : opnd m (.pn f es) e = (m e).bind toO := rfl
@[simp] theorem opnd_and {m a b} : opnd m (.and a b) e = (m e).bind toO := rfl
@[simp] theorem opnd_or {m a b} : opnd m (.or a b) e = (m e).bind toO := rfl
@[simp] theorem opnd_not {m a} : opnd m (.not a) e = (m e).bind toO := rfl
@[simp] theorem opnd_ite {m a b c} : opnd m (.ite a b c) e = (m e).bind toO := rfl
@[simp] theorem opnd_chain {m f g a b c} : opnd m (.chain f g a b c) e = (m e).bind toO := rfl
@[simp] theorem opnd_call {m f ms es} : opnd m (.call f ms es) e = (m e).bind toO := rfl
@[simp] theorem opnd_comp {m a b c d f g} : opnd m (.comp a b c d f g) e = (m e).bind toO := rfl
@[simp] theorem opnd_popL {m i} : opnd m (.popL i) e = (m e).bind toO := rfl
@[simp] theorem opnd_popA {m i a} : opnd m (.popA i a) e = (m e).bind toO := rfl
@[simp] theorem opnd_sl {m a b c} : opnd m (.sl a b c) e = (m e).bind toO := rfl
@[simp] theorem frozen_eq {m : En → Res Ent} : frozen m e = (m e).bind frz := rfl
@[simp] theorem frz_fz {d} : frz (.fz d) e = .ok d e := rfl
@[simp] theorem frz_ow {d} : frz (.ow d) e = .ok d e := rfl
@[simp] theorem bind_ok {α β : Type} {a : α} {f : α → En → Res β} : (Res.ok a e).bind f = f a e := rfl
@[simp] theorem bind_no {α β : Type} {f : α → En → Res β} : (Res.no : Res α).bind f = .no := rfl
@[simp] theorem bind_ex {α β : Type} {c ps} {f : α → En → Res β} : (Res.ex c ps e : Res α).bind f = .ex c ps e := rfl
@[simp] theorem sr_ok {α : Type} {a : α} {f : α → En → SR} : (Res.ok a e).sr f = f a e := rfl
@[simp] theorem sr_ex {α : Type} {c ps} {f : α → En → SR} : (Res.ex c ps e : Res α).sr f = .ex c ps e := rfl
@[simp] theorem ent_sl {i} : Opd.ent e (.sl i) = (e[i]?).getD .un := rfl
@[simp] theorem ent_vl {r} : Opd.ent e (.vl r) = r := rfl
@[simp] theorem d_fz {d} : Ent.d (.fz d) = some d := rfl
@[simp] theorem d_ow {d} : Ent.d (.ow d) = some d := rfl
@[simp] theorem allD_nil : allD e [] = some [] := rfl
def consD (a : Option D) (b : Option (List D)) : Option (List D) :=
  match a, b with
  | some d, some ds => some (d :: ds)
  | _, _ => none
@[simp] theorem consD_some {d ds} : consD (some d) (some ds) = some (d :: ds) := rfl
@[simp] theorem allD_cons {x xs} : allD e (x :: xs) = consD (x.ent e).d (allD e xs) := rfl
@[simp] theorem onD_some {f ds} : onD f (some ds) e = retE (f ds) e := rfl
@[simp] theorem retE_fz {d} : retE (some (.fz d)) e = .ok (.fz d) e := rfl
@[simp] theorem retE_ow {d} : retE (some (.ow d)) e = .ok (.ow d) e := rfl
def boolR (o : Option Bool) (e : En) : Res Bool :=
  match o with
  | some b => .ok b e
  | none => .no
@[simp] theorem boolR_some {b} : boolR (some b) e = .ok b e := rfl
@[simp] theorem onB_fz {d} : onB (.fz d) e = boolR (truth d) e := by simp [onB, boolR] <;> rfl
@[simp] theorem onB_ow {d} : onB (.ow d) e = boolR (truth d) e := by simp [onB, boolR] <;> rfl
@[simp] theorem boolE_bl {b} : boolE (.fz (.bl b)) e = .ok b e := rfl
@[simp] theorem truth_bl {b} : truth (.bl b) = some b := rfl
@[simp] theorem truth_non : truth .non = some false := rfl
@[simp] theorem truth_int {i} : truth (.int i) = some (i != 0) := rfl
@[simp] theorem truth_tup {xs} : truth (.tup xs) = some (!xs.isEmpty) := rfl
@[simp] theorem truth_lst {xs} : truth (.lst xs) = some (!xs.isEmpty) := rfl
@[simp] theorem slots_nil : slots [] = [] := rfl
@[simp] theorem slots_sl {i xs} : slots (.sl i :: xs) = i :: slots xs := rfl
@[simp] theorem slots_vl {r xs} : slots (.vl r :: xs) = slots xs := rfl
@[simp] theorem putBack_nil {os} : putBack [] os e = e := by cases os <;> rfl
@[simp] theorem putBack_sl {i xs o os} : putBack (.sl i :: xs) (o :: os) e = putBack xs os (e.set i o) := rfl
@[simp] theorem putBack_vl {r xs o os} : putBack (.vl r :: xs) (o :: os) e = putBack xs os e := rfl
@[simp] theorem putBack_none {x xs} : putBack (x :: xs) [] e = e := rfl
def callR (xs : List Opd) (e : En) : CRes → Res Ent
  | .ok r outs => .ok r (putBack xs outs e)
  | .ex c ps outs => .ex c ps (putBack xs outs e)
  | .no => .no
@[simp] theorem callR_ok {xs r outs} : callR xs e (.ok r outs) = .ok r (putBack xs outs e) := rfl
@[simp] theorem callR_ex {xs c ps outs} : callR xs e (.ex c ps outs) = .ex c ps (putBack xs outs e) := rfl
@[simp] theorem callWith_eq {f xs} : callWith C f xs e = if (slots xs).Nodup then callR xs e (C f (xs.map (Opd.ent e))) else .no := by
  unfold callWith callR
  rfl
@[simp] theorem wipeE_nil : wipeE e [] = e := rfl
@[simp] theorem wipeE_cons {i is} : wipeE e (i :: is) = (wipeE e is).set i .un := rfl
@[simp] theorem backE_nil {e0} : backE e0 e [] = e := rfl
@[simp] theorem backE_cons {e0 i is} : backE e0 e (i :: is) = (backE e0 e is).set i ((e0[i]?).getD .un) := rfl
@[simp] theorem ownL_eq {i} : ownL e i = (match e[i]? with | some (.ow (.lst ds)) => some ds | _ => none) := rfl
@[simp] theorem compLoop_nil {tg own t m acc} : compLoop tg own t m [] acc e = .ok acc e := rfl
@[simp] theorem asg_nm {i d} : Tg.asg pw (.nm i) d e = if i ∈ pw then none else some (e.set i (.fz d)) := by rw [Tg.asg]
@[simp] theorem asg_tp {ts ds} : Tg.asg pw (.tp ts) (.tup ds) e = Tg.asgs pw ts ds e := by rw [Tg.asg]
@[simp] theorem asgs_nil : Tg.asgs pw [] [] e = some e := by rw [Tg.asgs]
def asgN (pw : List Nat) (ts : List Tg) (ds : List D) : Option En → Option En
  | some e => Tg.asgs pw ts ds e
  | none => none
@[simp] theorem asgN_some {ts ds} : asgN pw ts ds (some e) = Tg.asgs pw ts ds e := rfl
@[simp] theorem asgs_cons {t ts d ds} : Tg.asgs pw (t :: ts) (d :: ds) e = asgN pw ts ds (Tg.asg pw t d e) := by rw [Tg.asgs]; rfl
/-! statements -/
@[simp] theorem exec_expr {a} : exec C pw (.expr a) e = (ev C a e).sr fun _ e => .nx e := by rw [exec]
@[simp] theorem exec_set {i a} : exec C pw (.set i a) e = (ev C a e).sr fun r e => if i ∈ pw then .no else .nx (e.set i r) := by rw [exec]
@[simp] theorem exec_unp {ts a} : exec C pw (.unp ts a) e = (frozen (ev C a) e).sr fun d e => SR.opt (Tg.asg pw (.tp ts) d e) := by
  rw [exec]; congr 1; try (funext d e; cases Tg.asg pw (.tp ts) d e <;> rfl)
@[simp] theorem opt_some : SR.opt (some e) = .nx e := rfl
@[simp] theorem exec_par {i j a b} : exec C pw (.par i j a b) e = (ev C a e).sr fun r e => (ev C b e).sr fun u e => if i ∈ pw ∨ j ∈ pw then .no else .nx ((e.set i r).set j u) := by rw [exec]
def onS {α : Type} (o : Option α) (f : α → SR) : SR :=
  match o with
  | some a => f a
  | none => .no
@[simp] theorem onS_some {α : Type} {a : α} {f : α → SR} : onS (some a) f = f a := rfl
@[simp] theorem exec_app {i a} : exec C pw (.app i a) e = onS (ownL e i) fun _ => (frozen (ev C a) e).sr fun d e => SR.opt (appL i d e) := by rw [exec]; cases ownL e i <;> rfl
@[simp] theorem exec_ext {i a} : exec C pw (.ext i a) e = onS (ownL e i) fun _ => (frozen (ev C a) e).sr fun d e => SR.opt (extL i d e) := by rw [exec]; cases ownL e i <;> rfl
@[simp] theorem exec_sti {i ix a} : exec C pw (.sti i ix a) e = (frozen (ev C a) e).sr fun d e => onS (ownL e i) fun _ => (ev C ix e).sr fun r e => SR.opt (stiL i d r e) := by
  rw [exec]; congr 1; funext d e; cases ownL e i <;> rfl
@[simp] theorem exec_ite {c p q} : exec C pw (.ite c p q) e = (evT C c e).sr fun t e => if t = true then execs C pw p e else execs C pw q e := by rw [exec]
@[simp] theorem exec_for {tg ik ies b} : exec C pw (.for_ tg ik ies b) e = (evs C ies e).sr fun ds e => onS (ik ds) fun xs => forLoop pw tg (execs C pw b) xs e := by
  rw [exec]; congr 1; funext ds e; cases ik ds <;> rfl
@[simp] theorem exec_whl {c b} : exec C pw (.whl c b) e = whlLoop (evT C c) (execs C pw b) whlFuel e := by rw [exec]
def retV (r : Option Ent) (i : Nat) (e : En) : SR :=
  match r with
  | some (.fz d) => .rt (.fz d) e
  | some (.ow d) => .rt (.ow d) (e.set i .un)
  | _ => .no
@[simp] theorem retV_fz {d i} : retV (some (.fz d)) i e = .rt (.fz d) e := rfl
@[simp] theorem retV_ow {d i} : retV (some (.ow d)) i e = .rt (.ow d) (e.set i .un) := rfl
@[simp] theorem exec_retV {i} : exec C pw (.ret (.var i)) e = retV e[i]? i e := by rw [exec]; rfl
theorem exec_ret {a} (h : isVar a = none) : exec C pw (.ret a) e = (ev C a e).sr fun r e => .rt r e := by rw [exec, h]
@[simp] theorem exec_ret_lit {d} : exec C pw (.ret (.lit d)) e = .rt (.fz d) e := by rw [exec_ret rfl]; simp
@[simp] theorem exec_ret_con {d} : exec C pw (.ret (.con d)) e = .rt (.fz d) e := by rw [exec_ret rfl]; simp
@[simp] theorem exec_ret_tup {a} : exec C pw (.ret (.tup a)) e = (ev C (.tup a) e).sr fun r e => .rt r e := exec_ret rfl
@[simp] theorem exec_ret_lst {a} : exec C pw (.ret (.lst a)) e = (ev C (.lst a) e).sr fun r e => .rt r e := exec_ret rfl
@[simp] theorem exec_ret_pn {f a} : exec C pw (.ret (.pn f a)) e = (ev C (.pn f a) e).sr fun r e => .rt r e := exec_ret rfl
@[simp] theorem exec_ret_and {a b} : exec C pw (.ret (.and a b)) e = (ev C (.and a b) e).sr fun r e => .rt r e := exec_ret rfl
@[simp] theorem exec_ret_or {a b} : exec C pw (.ret (.or a b)) e = (ev C (.or a b) e).sr fun r e => .rt r e := exec_ret rfl
@[simp] theorem exec_ret_not {a} : exec C pw (.ret (.not a)) e = (ev C (.not a) e).sr fun r e => .rt r e := exec_ret rfl
@[simp] theorem exec_ret_ite {a b c} : exec C pw (.ret (.ite a b c)) e = (ev C (.ite a b c) e).sr fun r e => .rt r e := exec_ret rfl
@[simp] theorem exec_ret_chain {f g a b c} : exec C pw (.ret (.chain f g a b c)) e = (ev C (.chain f g a b c) e).sr fun r e => .rt r e := exec_ret rfl
@[simp] theorem exec_ret_call {f a b} : exec C pw (.ret (.call f a b)) e = (ev C (.call f a b) e).sr fun r e => .rt r e := exec_ret rfl
@[simp] theorem exec_ret_comp {a b c d f g} : exec C pw (.ret (.comp a b c d f g)) e = (ev C (.comp a b c d f g) e).sr fun r e => .rt r e := exec_ret rfl
@[simp] theorem exec_ret_sl {a b c} : exec C pw (.ret (.sl a b c)) e = (ev C (.sl a b c) e).sr fun r e => .rt r e := exec_ret rfl
@[simp] theorem exec_ret_popL {a} : exec C pw (.ret (.popL a)) e = (ev C (.popL a) e).sr fun r e => .rt r e := exec_ret rfl
@[simp] theorem exec_ret_popA {a b} : exec C pw (.ret (.popA a b)) e = (ev C (.popA a b) e).sr fun r e => .rt r e := exec_ret rfl
@[simp] theorem exec_retN : exec C pw .retN e = .rt (.fz .non) e := by rw [exec]
@[simp] theorem exec_pass : exec C pw .pass e = .nx e := by rw [exec]
@[simp] theorem exec_brk : exec C pw .brk e = .bk e := by rw [exec]
@[simp] theorem exec_cont : exec C pw .cont e = .ct e := by rw [exec]
@[simp] theorem exec_rse {c es} : exec C pw (.rse c es) e = (evs C es e).sr fun ds e => .ex c ds e := by rw [exec]
@[simp] theorem execs_nil : execs C pw [] e = .nx e := by rw [execs]
def thenS (r : SR) (k : En → SR) : SR :=
  match r with
  | .nx e => k e
  | r => r
@[simp] theorem thenS_nx {k} : thenS (.nx e) k = k e := rfl
@[simp] theorem thenS_rt {r k} : thenS (.rt r e) k = .rt r e := rfl
@[simp] theorem thenS_bk {k} : thenS (.bk e) k = .bk e := rfl
@[simp] theorem thenS_ct {k} : thenS (.ct e) k = .ct e := rfl
@[simp] theorem thenS_ex {c ps k} : thenS (.ex c ps e) k = .ex c ps e := rfl
@[simp] theorem execs_cons {s ss} : execs C pw (s :: ss) e = thenS (exec C pw s e) (execs C pw ss) := by
  rw [execs]; cases exec C pw s e <;> rfl
@[simp] theorem forLoop_nil {tg b} : forLoop pw tg b [] e = .nx e := rfl
def turnN (b : En → SR) (k : En → SR) : Option En → SR
  | some e => turn (b e) k
  | none => .no
@[simp] theorem turnN_some {b k} : turnN b k (some e) = turn (b e) k := rfl
@[simp] theorem forLoop_cons {tg b x xs} : forLoop pw tg b (x :: xs) e = turnN b (forLoop pw tg b xs) (Tg.asg pw tg x e) := by
  rw [forLoop]; cases Tg.asg pw tg x e <;> rfl
@[simp] theorem turn_nx {k} : turn (.nx e) k = k e := rfl
@[simp] theorem turn_ct {k} : turn (.ct e) k = k e := rfl
@[simp] theorem turn_bk {k} : turn (.bk e) k = .nx e := rfl
@[simp] theorem turn_rt {r k} : turn (.rt r e) k = .rt r e := rfl
@[simp] theorem turn_ex {c ps k} : turn (.ex c ps e) k = .ex c ps e := rfl
@[simp] theorem finish_nx {fd} : finish fd (.nx e) = .ok (.fz .non) (outsOf fd e) := rfl
@[simp] theorem finish_rt {fd r} : finish fd (.rt r e) = .ok r (outsOf fd e) := rfl
@[simp] theorem finish_ex {fd c ps} : finish fd (.ex c ps e) = .ex c ps (outsOf fd e) := rfl
/-! prims -/
@[simp] theorem padd_int {a b} : padd [.int a, .int b] = some (.fz (.int (a + b))) := rfl
@[simp] theorem psub_int {a b} : psub [.int a, .int b] = some (.fz (.int (a - b))) := rfl
@[simp] theorem pmod_int {a b} (h : b ≠ 0) : pmod [.int a, .int b] = some (.fz (.int (a.fmod b))) := if_pos h
@[simp] theorem pfdiv_int {a b} (h : b ≠ 0) (h2 : b.natAbs < 1073741824) : pfdiv [.int a, .int b] = some (.fz (.int (a.fdiv b))) := if_pos ⟨h, h2⟩
theorem pmul_int {a b} (h : L2.CMul a b) : pmul [.int a, .int b] = some (.fz (.int (a * b))) := if_pos (cmulB_iff.mpr h)
@[simp] theorem plt_int {a b} : plt [.int a, .int b] = some (.fz (.bl (decide (a < b)))) := rfl
@[simp] theorem ple_int {a b} : ple [.int a, .int b] = some (.fz (.bl (decide (a ≤ b)))) := rfl
@[simp] theorem pgt_int {a b} : pgt [.int a, .int b] = some (.fz (.bl (decide (b < a)))) := rfl
@[simp] theorem pge_int {a b} : pge [.int a, .int b] = some (.fz (.bl (decide (b ≤ a)))) := rfl
@[simp] theorem pint_int {a} : pint [.int a] = some (.fz (.int a)) := rfl
@[simp] theorem pint_bl {b} : pint [.bl b] = some (.fz (.int (if b then 1 else 0))) := rfl
@[simp] theorem pneg_int {a} : pneg [.int a] = some (.fz (.int (-a))) := rfl
@[simp] theorem pabs_int {a} : pabs [.int a] = some (.fz (.int (if a < 0 then -a else a))) := rfl
@[simp] theorem pmin2_int {a b} : pmin2 [.int a, .int b] = some (.fz (.int (if b < a then b else a))) := rfl
@[simp] theorem pmax2_int {a b} : pmax2 [.int a, .int b] = some (.fz (.int (if b > a then b else a))) := rfl
@[simp] theorem plen_tup {xs} : plen [.tup xs] = some (.fz (.int xs.length)) := rfl
@[simp] theorem plen_lst {xs} : plen [.lst xs] = some (.fz (.int xs.length)) := rfl
@[simp] theorem plen_scr {xs} : plen [.scr xs] = some (.fz (.int xs.length)) := rfl
@[simp] theorem ptuple_lst {xs} : ptuple [.lst xs] = some (.fz (.tup xs)) := rfl
@[simp] theorem ptuple_tup {xs} : ptuple [.tup xs] = some (.fz (.tup xs)) := rfl
@[simp] theorem plist_lst {xs} : plist [.lst xs] = some (.ow (.lst xs)) := rfl
@[simp] theorem plist_tup {xs} : plist [.tup xs] = some (.ow (.lst xs)) := rfl
@[simp] theorem pisN_eq {a} : pisN [a, .non] = some (.fz (.bl a.isN)) := rfl
@[simp] theorem pnotN_eq {a} : pnotN [a, .non] = some (.fz (.bl (!a.isN))) := rfl
@[simp] theorem pisi_eq {cs a} : pisi cs [a] = a.cl.map fun c => .fz (.bl (cs.any fun k => isC c k)) := rfl
@[simp] theorem pidx_tup {xs i} : pidx [.tup xs, .int i] = (L2.atI xs i).map .fz := rfl
@[simp] theorem pidx_lst {xs i} : pidx [.lst xs, .int i] = (L2.atI xs i).map .fz := rfl
@[simp] theorem pidx_scr {xs i} : pidx [.scr xs, .int i] = (L2.atI xs i).map .fz := rfl
@[simp] theorem atI_nat {α : Type} {xs : List α} {n : Nat} : L2.atI xs (n : Int) = xs[n]? := by
  unfold L2.atI L2.ixN
  by_cases h : n < xs.length
  · simp [h]
  · simp [h]
@[simp] theorem atI_0 {α : Type} {xs : List α} : L2.atI xs (0 : Int) = xs[0]? := atI_nat (n := 0)
@[simp] theorem atI_1 {α : Type} {xs : List α} : L2.atI xs (1 : Int) = xs[1]? := atI_nat (n := 1)
@[simp] theorem atI_2 {α : Type} {xs : List α} : L2.atI xs (2 : Int) = xs[2]? := atI_nat (n := 2)
@[simp] theorem atI_3 {α : Type} {xs : List α} : L2.atI xs (3 : Int) = xs[3]? := atI_nat (n := 3)
@[simp] theorem atI_4 {α : Type} {xs : List α} : L2.atI xs (4 : Int) = xs[4]? := atI_nat (n := 4)
@[simp] theorem atI_5 {α : Type} {xs : List α} : L2.atI xs (5 : Int) = xs[5]? := atI_nat (n := 5)
@[simp] theorem atI_6 {α : Type} {xs : List α} : L2.atI xs (6 : Int) = xs[6]? := atI_nat (n := 6)
@[simp] theorem atI_7 {α : Type} {xs : List α} : L2.atI xs (7 : Int) = xs[7]? := atI_nat (n := 7)
@[simp] theorem atI_neg1 {α : Type} {xs : List α} : L2.atI xs (-1 : Int) = xs[xs.length - 1]? := by
  unfold L2.atI L2.ixN
  cases xs with
  | nil => rfl
  | cons x r =>
    have h : (-((x :: r).length : Int)) ≤ -1 := by simp; omega
    have h2 : ((-1 : Int) + ((x :: r).length : Int)).toNat = (x :: r).length - 1 := by simp; omega
    rw [if_neg (by decide), if_pos h]
    simp only [Option.bind_some, h2]
@[simp] theorem ixN_nat {n m : Nat} (h : m < n) : L2.ixN n (m : Int) = some m := by
  unfold L2.ixN; simp [h]
@[simp] theorem ixN_0 {m : Nat} (h : 0 < m) : L2.ixN m (0 : Int) = some 0 := ixN_nat h
@[simp] theorem ixN_1 {m : Nat} (h : 1 < m) : L2.ixN m (1 : Int) = some 1 := ixN_nat h
@[simp] theorem ixN_2 {m : Nat} (h : 2 < m) : L2.ixN m (2 : Int) = some 2 := ixN_nat h
@[simp] theorem ixN_3 {m : Nat} (h : 3 < m) : L2.ixN m (3 : Int) = some 3 := ixN_nat h
@[simp] theorem ixN_4 {m : Nat} (h : 4 < m) : L2.ixN m (4 : Int) = some 4 := ixN_nat h
@[simp] theorem getElem?_0 {α : Type} {x : α} {xs : List α} : (x :: xs)[0]? = some x := rfl
@[simp] theorem getElem?_s {α : Type} {x : α} {xs : List α} {n : Nat} : (x :: xs)[n + 1]? = xs[n]? := rfl
end PI

end

section
set_option maxRecDepth 100000
set_option maxHeartbeats 1000000
/-! PiL: loops by invariants. -/
namespace PI
theorem szl : PySem.sizeLine = 16777216 := by rfl
/-! ### comprehensions -/
theorem backE_same {e e' : En} : ∀ {own : List Nat}, e'.length = e.length → (∀ i, i ∉ own → e'[i]? = e[i]?) → backE e e' own = e := fun {own} hl h => by
  apply List.ext_getElem?
  intro i
  by_cases hi : i < e.length
  · have : ∀ (is : List Nat), (backE e e' is)[i]? = if i ∈ is then e[i]? else e'[i]? := by
      intro is
      induction is with
      | nil => simp
      | cons k is ih =>
        unfold backE
        by_cases hk : k = i
        · subst hk
          rw [List.getElem?_set_self (by rw [backE_length]; omega)]
          rw [List.getElem?_eq_getElem hi]
          simp
        · rw [List.getElem?_set_ne hk, ih]
          have : (i ∈ k :: is) ↔ i ∈ is := by simp [Ne.symm hk]
          simp [this]
    rw [this]
    split
    · rfl
    · exact h i (by assumption)
  · rw [List.getElem?_eq_none (by rw [backE_length]; omega), List.getElem?_eq_none (by omega)]
theorem wipe_eq {e e' : En} {own : List Nat} (h : wipeE e' own = wipeE e own) : e'.length = e.length ∧ ∀ i, i ∉ own → e'[i]? = e[i]? := by
  constructor
  · have := congrArg List.length h
    simpa [wipeE_length] using this
  · intro i hi
    have := congrArg (fun l => l[i]?) h
    simpa [wipeE_get' hi] using this
/-- a comprehension without side effects -/
theorem compLoop_map {tg : Tg} {own : List Nat} {t : En → Res Bool} {m : En → Res D} {e : En} {p : D → Bool} {f : D → D} : ∀ {xs acc : List D} {e0 : En}, wipeE e0 own = wipeE e own →
    (∀ x ∈ xs, ∃ e1, Tg.asg [] tg x (wipeE e own) = some e1 ∧ t e1 = .ok (p x) e1 ∧ (p x = true → m e1 = .ok (f x) e1) ∧ wipeE e1 own = wipeE e own) → acc.length + xs.length ≤ PySem.sizeLine →
    ∃ e', compLoop tg own t m xs acc e0 = .ok (acc ++ (xs.filter p).map f) e' ∧ wipeE e' own = wipeE e own
  | [], acc, e0, h0, _, _ => ⟨e0, by simp, h0⟩
  | x :: xs, acc, e0, h0, h, hl => by
    obtain ⟨e1, h1, h2, h3, h4⟩ := h x (by simp)
    have hl' : acc.length + xs.length + 1 ≤ PySem.sizeLine := by simpa [Nat.add_assoc] using hl
    unfold compLoop
    rw [h0, h1]
    dsimp only
    rw [h2]
    cases q : p x with
    | true =>
      dsimp only
      rw [h3 q]
      dsimp only
      rw [if_pos (by omega)]
      obtain ⟨e', q1, q2⟩ := compLoop_map (xs := xs) (acc := acc ++ [f x]) h4 (fun y hy => h y (by simp [hy])) (by simp; omega)
      exact ⟨e', by rw [q1]; simp [q], q2⟩
    | false =>
      dsimp only
      obtain ⟨e', q1, q2⟩ := compLoop_map (xs := xs) (acc := acc) h4 (fun y hy => h y (by simp [hy])) (by omega)
      exact ⟨e', by rw [q1]; simp [q], q2⟩
theorem comp_map {tg : Tg} {own : List Nat} {t : En → Res Bool} {m : En → Res D} {e : En} (p : D → Bool) (f : D → D) {xs : List D} (h : ∀ x ∈ xs, ∃ e1, Tg.asg [] tg x (wipeE e own) = some e1 ∧ t e1 = .ok (p x) e1 ∧ (p x = true → m e1 = .ok (f x) e1) ∧ wipeE e1 own = wipeE e own) (hl : xs.length ≤ PySem.sizeLine) :
    compR own tg t m e (some xs) = .ok (.ow (.lst ((xs.filter p).map f))) e := by
  obtain ⟨e', h1, h2⟩ := compLoop_map (acc := []) (e0 := e) rfl h (by simpa using hl)
  obtain ⟨h3, h4⟩ := wipe_eq h2
  rw [compR_some, h1]
  simp only [bind_ok, List.nil_append]
  rw [backE_same h3 h4]
theorem filter_true {α : Type} (xs : List α) : xs.filter (fun _ => true) = xs := by simp
/-- .. without a test -/
theorem comp_map1 {tg : Tg} {own : List Nat} {C : Calls} {m : En → Res D} {e : En} (f : D → D) {xs : List D} (h : ∀ x ∈ xs, ∃ e1, Tg.asg [] tg x (wipeE e own) = some e1 ∧ m e1 = .ok (f x) e1 ∧ wipeE e1 own = wipeE e own) (hl : xs.length ≤ PySem.sizeLine) :
    compR own tg (evTs C []) m e (some xs) = .ok (.ow (.lst (xs.map f))) e := by
  rw [comp_map (fun _ => true) f (fun x hx => ?_) hl, filter_true]
  obtain ⟨e1, h1, h2, h3⟩ := h x hx
  exact ⟨e1, h1, by simp, fun _ => h2, h3⟩
/-- a comprehension by an invariant -/
theorem compLoop_inv {tg : Tg} {own : List Nat} {t : En → Res Bool} {m : En → Res D} (I : List D → List D → En → Prop)
    (h : ∀ x xs acc e, I (x :: xs) acc e → ∃ e1, Tg.asg [] tg x (wipeE e own) = some e1 ∧ ((∃ e2, t e1 = .ok false e2 ∧ I xs acc e2) ∨ ∃ e2 d e3, t e1 = .ok true e2 ∧ m e2 = .ok d e3 ∧ acc.length < PySem.sizeLine ∧ I xs (acc ++ [d]) e3)) :
    ∀ {xs acc e}, I xs acc e → ∃ ds e', compLoop tg own t m xs acc e = .ok ds e' ∧ I [] ds e'
  | [], acc, e, h0 => ⟨acc, e, rfl, h0⟩
  | x :: xs, acc, e, h0 => by
    obtain ⟨e1, h1, h2⟩ := h x xs acc e h0
    unfold compLoop
    rw [h1]
    dsimp only
    rcases h2 with ⟨e2, h2, h3⟩ | ⟨e2, d, e3, h2, h3, h4, h5⟩
    · rw [h2]
      exact compLoop_inv I h h3
    · rw [h2]
      dsimp only
      rw [h3]
      dsimp only
      rw [if_pos h4]
      exact compLoop_inv I h h5
/-! ### for -/
theorem forLoop_inv {pw : List Nat} {tg : Tg} {b : En → SR} (I : List D → En → Prop) (h : ∀ x xs e, I (x :: xs) e → ∃ e1, Tg.asg pw tg x e = some e1 ∧ ∃ e2, (b e1 = .nx e2 ∨ b e1 = .ct e2) ∧ I xs e2) :
    ∀ {xs e}, I xs e → ∃ e', forLoop pw tg b xs e = .nx e' ∧ I [] e'
  | [], e, h0 => ⟨e, rfl, h0⟩
  | x :: xs, e, h0 => by
    obtain ⟨e1, h1, e2, h2, h3⟩ := h x xs e h0
    rw [forLoop_cons, h1, turnN_some]
    obtain ⟨e', h4, h5⟩ := forLoop_inv I h h3
    rcases h2 with h2 | h2 <;> rw [h2] <;> exact ⟨e', h4, h5⟩
/-- a for that may return -/
theorem forLoop_ret {pw : List Nat} {tg : Tg} {b : En → SR} (I : List D → En → Prop) (R : Ent → En → Prop) (h : ∀ x xs e, I (x :: xs) e → ∃ e1, Tg.asg pw tg x e = some e1 ∧ ((∃ e2, (b e1 = .nx e2 ∨ b e1 = .ct e2) ∧ I xs e2) ∨ ∃ r e2, b e1 = .rt r e2 ∧ R r e2)) :
    ∀ {xs e}, I xs e → (∃ e', forLoop pw tg b xs e = .nx e' ∧ I [] e') ∨ ∃ r e', forLoop pw tg b xs e = .rt r e' ∧ R r e'
  | [], e, h0 => .inl ⟨e, rfl, h0⟩
  | x :: xs, e, h0 => by
    obtain ⟨e1, h1, h2⟩ := h x xs e h0
    rw [forLoop_cons, h1, turnN_some]
    rcases h2 with ⟨e2, h2, h3⟩ | ⟨r, e2, h2, h3⟩
    · rcases h2 with h2 | h2 <;> rw [h2] <;> exact forLoop_ret I R h h3
    · rw [h2]; exact .inr ⟨r, e2, rfl, h3⟩
theorem run_def {tbl : List FD} {i : Nat} {fd : FD} {k : Nat} {args : List Ent} (h : tbl[i]? = some fd) (hl : args.length = fd.np) : run tbl (k + 1) i args = finish fd (execs (run tbl k) fd.pw fd.body (args ++ List.replicate (fd.nl - fd.np) .un)) := by
  rw [run, h]; dsimp only; rw [if_pos hl]
/-! ### data -/
mutual
/-- plain data of a depth -/
def plainD : Nat → D → Bool
  | _, .non => true
  | _, .bl _ => true
  | _, .int _ => true
  | _, .str x => PySem.PyData.canLay0 (.str x)
  | 0, _ => false
  | n + 1, .tup xs => decide (xs.length ≤ PySem.sizeLine) && plains n xs
  | n + 1, .lst xs => decide (xs.length ≤ PySem.sizeLine) && plains n xs
  | _, _ => false
def plains : Nat → List D → Bool
  | _, [] => true
  | n, x :: xs => plainD n x && plains n xs
end
end PI

end

section
set_option maxRecDepth 100000
set_option maxHeartbeats 1000000
/-! PiA: enumerate and zip over lists and tuples in any mix. -/
namespace PI
open PySem PySem.Spec PyProof.Rows L2

/-- the sequence at a: a tuple (true), a list (false) -/
def SqX (K : PySem.W.Frag) (t : Bool) (H : Hp) (a : Addr) (xs : List V) : Prop := match t with
  | true => SqT K H a xs
  | false => SqL K H a xs
def PlX (t : Bool) (h : Heap) (a : Addr) (its : Array Value) : Prop := match t with
  | true => h.IsTuple a its
  | false => h.IsList a its
def IterX (t : Bool) (h : Heap) (it a : Addr) (i : Nat) : Prop := match t with
  | true => h.IsTupleIter it a i
  | false => h.IsListIter it a i
def nameX : Bool → String
  | true => "tuple_iterator"
  | false => "list_iterator"
def objX (t : Bool) (a : Addr) : Obj := { cls := .type (nameX t), data := .fields #[.ref a, .int 0 0] }
theorem SqX.mono {K : PySem.W.Frag} {t : Bool} {F H : Hp} (l : FLe F H) {a : Addr} {xs : List V} (r : SqX K t F a xs) : SqX K t H a xs := by
  cases t
  · exact SqL.mono l r
  · exact SqT.mono l r
theorem sqx_is {X : Cx} {pins : List (Addr × Obj)} {σ : L2.St} {H : Hp} {s : Shared} (I : L2.Inv X pins σ H s) {t : Bool} {a : Addr} {xs : List V} (h : SqX X.K t H a xs) : ∃ its, Vals xs its ∧ PlX t s.heap a its.toArray := by
  cases t
  · obtain ⟨its, rv, p, _⟩ := I.list h
    exact ⟨its, rv, p.isList⟩
  · obtain ⟨its, rv, p, _⟩ := I.tuple h
    exact ⟨its, rv, p⟩
theorem sqx_inj {X : Cx} {pins : List (Addr × Obj)} {σ : L2.St} {H : Hp} {s : Shared} (I : L2.Inv X pins σ H s) {t : Bool} {a : Addr} {xs ys : List V} (h : SqX X.K t H a xs) (k : SqX X.K t H a ys) : xs = ys := by
  cases t
  · exact I.list_inj h k
  · exact I.tuple_inj h k
theorem iterX_at {t : Bool} {h h' : Heap} {it a : Addr} {i : Nat} (x : IterX t h it a i) (k : ∀ o, h.get? it = some o → h'.get? it = some o) : IterX t h' it a i := by
  cases t
  · exact Heap.IsListIter.at x k
  · exact Heap.IsTupleIter.at x k
theorem iterX_obj {t : Bool} {h : Heap} {it a : Addr} {i : Nat} (x : IterX t h it a i) : ∃ o vs, h.get? it = some o ∧ o.cls = .type (nameX t) ∧ o.data = .fields vs := by
  cases t
  · obtain ⟨o, h1, h2, h3⟩ := x
    exact ⟨o, _, h1, h2, h3⟩
  · obtain ⟨o, h1, h2, h3⟩ := x
    exact ⟨o, _, h1, h2, h3⟩
theorem iterX_lt {t : Bool} {h : Heap} {it a : Addr} {i : Nat} (x : IterX t h it a i) : it < h.objs.size := by
  obtain ⟨o, vs, h1, _⟩ := iterX_obj x
  exact Heap.lt_size h1
theorem plX_lt {t : Bool} {h : Heap} {a : Addr} {its : Array Value} (x : PlX t h a its) : a < h.objs.size := by
  cases t
  · obtain ⟨o, h1, _⟩ := x
    exact Heap.lt_size h1
  · obtain ⟨o, h1, _⟩ := x
    exact Heap.lt_size h1
theorem x_ne {t t' : Bool} {h : Heap} {it a b : Addr} {i : Nat} {its : Array Value} (x : IterX t h it a i) (p : PlX t' h b its) : b ≠ it := by
  rintro rfl
  obtain ⟨o, vs, h1, _, h3⟩ := iterX_obj x
  cases t'
  · obtain ⟨o', k1, _, n, k3⟩ := p
    rw [h1] at k1; cases k1
    rw [h3] at k3; cases k3
  · obtain ⟨o', k1, _, n, k3⟩ := p
    rw [h1] at k1; cases k1
    rw [h3] at k3; cases k3
theorem beginsX (t : Bool) (a : Addr) (its : Array Value) : Begins (.ref a) (objX t a) fun h => PlX t h a its := by
  cases t
  · exact begins_list a its
  · exact begins_tuple a its
theorem drawsX {prog : Program} {w : World} {A : Around} (hh : A.handled = none) (t : Bool) (it a : Addr) (hne : a ≠ it) (its : Array Value) :
    Draws prog w A it [it, a] its.size (fun i v => its[i]? = some v) (fun i h => IterX t h it a i ∧ PlX t h a its) := by
  cases t
  · exact Draws.list hh it a hne its
  · exact Draws.tuple hh it a hne its
/-- at the end: nothing more is drawn -/
theorem drawsEnd {prog : Program} {w : World} {A : Around} (hh : A.handled = none) (t : Bool) (it a : Addr) (hne : a ≠ it) (its : Array Value) {i : Nat} (hx : its[i]? = none) :
    Draws prog w A it [it, a] i (fun _ _ => False) (fun j h => j = i ∧ IterX t h it a i ∧ PlX t h a its) where
  live := fun _ _ st => by
    obtain ⟨o, vs, h1, _⟩ := iterX_obj st.2.1
    exact ⟨o, h1⟩
  frame := fun j h h' st hk => ⟨st.1, iterX_at st.2.1 fun o e => hk it (by simp) o e, by
    have q := st.2.2
    cases t
    · exact Heap.IsList.at q fun o e => hk a (by simp) o e
    · exact Heap.IsTuple.at q fun o e => hk a (by simp) o e⟩
  item := fun j s Q E hj st _ => absurd st.1 (Nat.ne_of_lt hj)
  done := fun s Q E st hE => by
    obtain ⟨_, h1, h2⟩ := st
    cases t
    · exact wpAny_nextOf_list_end hh h1 h2 hx hE
    · exact wpAny_nextOf_tuple_end hh h1 h2 hx hE
theorem iterX_new {t : Bool} {h : Heap} {it a : Addr} (e : h.get? it = some (objX t a)) : IterX t h it a 0 := by
  cases t
  · exact ⟨_, e, rfl, rfl⟩
  · exact ⟨_, e, rfl, rfl⟩

/-! ### enumerate(v) -/
theorem meets_enumerate_new1 {v : Value} {o : Obj} {H : Heap → Prop} (B : Begins v o H) :
    Meets (Builtin.«enumerate.__new__» ⟨[.type "enumerate", v], []⟩) (fun _ R s => H s.heap ∧
      R (.ok (.ret (.ref (s.heap.push o).objs.size)))
        { s with heap := (s.heap.push o).push { cls := .type "enumerate", data := .fields #[.none, .bool false, .ref s.heap.objs.size, rawInt 0, .none, .none] } }) :=
  .of_wp fun prog w A R s h => by
    obtain ⟨hp, g, d, tk, os⟩ := s; obtain ⟨h1, h⟩ := h
    have hsub := sub_enumerate
    have q1 : ∀ {A' : Around} {E : Value → Shared → Prop} {Q : Value → Shared → Prop}, Q (.ref hp.objs.size) ⟨(hp.push o), g, d, tk, os⟩ → wpAny (model prog w) A' (pyIter v) Q E ⟨hp, g, d, tk, os⟩ :=
      fun q => B.iter prog w _ _ ⟨hp, g, d, tk, os⟩ _ h1 q
    wp_walk using q1
    refine wpAny_stack_any fun st => wpAny_pure ?_
    split
    · rename_i c _ _ _ _ _
      cases (c == Value.type "enumerate")
      · wp_walk using q1
        exact ⟨_, rfl, h⟩
      · wp_walk using q1
        exact ⟨_, rfl, h⟩
    · wp_walk using q1
      exact ⟨_, rfl, h⟩
section
variable {prog : Program} {w : World} {A : Around} {E : Value → Shared → Prop} {s : Shared}
theorem enum_begins1 {v : Value} {o : Obj} {H : Heap → Prop} {Q : Value → Shared → Prop} (B : Begins v o H) (h1 : H s.heap)
    (h : ∀ h', IsEnum h' (s.heap.objs.size + 1) s.heap.objs.size 0 .none → h'.get? s.heap.objs.size = some o → h'.objs.size = s.heap.objs.size + 2 →
      (∀ b o, s.heap.get? b = some o → h'.get? b = some o) → Q (.ref (s.heap.objs.size + 1)) { s with heap := h' }) :
    wpAny (model prog w) A (call (.type "enumerate") [v]) Q E s := by
  refine callType_new F.called_enumerate (by decide) (F.typeCall_enumerate_1 _) (F.newCall_enumerate_1 _) (fun obj => F.args_object_init_2 obj _) F.entry_enumerate_new
    (meets_enumerate_new1 B) ⟨h1, ?_⟩
  have hz : (s.heap.push o).objs.size = s.heap.objs.size + 1 := Heap.size_push ..
  show _ ∧ _
  rw [hz]
  have he : IsEnum ((s.heap.push o).push { cls := .type "enumerate", data := .fields #[.none, .bool false, .ref s.heap.objs.size, rawInt 0, .none, .none] }) (s.heap.objs.size + 1) s.heap.objs.size 0 .none := by
    have := Heap.get?_push_size (s.heap.push o) (o := { cls := .type "enumerate", data := .fields #[.none, .bool false, .ref s.heap.objs.size, rawInt 0, .none, .none] }) rfl
    rw [hz] at this; exact this
  refine ⟨⟨_, he, rfl⟩, h _ he (Heap.get?_push_of_some _ (Heap.get?_push_size _ B.free)) (by rw [Heap.size_push, hz]) fun b o x => Heap.get?_push_of_some _ (Heap.get?_push_of_some _ x)⟩
end
/-- the sequence at a as it stands, each item in a new pair -/
def IteX (K : PySem.W.Frag) (t : Bool) (a : Addr) : It :=
  ⟨fun i H => ∃ (xs : List V) (x : V), SqX K t H a xs ∧ xs[i]? = some x, fun i H v H' => ∃ T x, v = .ref T ∧ H T = none ∧ H' = upd H T (.tup [.int (i : Nat), x]) ∧ ∀ xs, SqX K t H a xs → xs[i]? = some x, fun i H => ∃ xs : List V, SqX K t H a xs ∧ xs.length ≤ i⟩
theorem turn_enumX {P : Program} {w : World} {K : PySem.W.Frag} {elts : List Expr} {kk : Nat} {tpos : Pos} (t : Bool) (a e it : Addr) :
    Turn P w K (.Tuple elts kk tpos) (IteX K t a) [e, it] e (fun i h => (∃ old, IsEnum h e it ((i : Nat) : Int) old) ∧ IterX t h it a i ∧ e ≠ it) where
  mem := by simp
  obj := fun i h st b hb => by
    obtain ⟨⟨old, he⟩, hi, _⟩ := st
    have e' : b = e ∨ b = it := by simpa using hb
    rcases e' with z | z
    · rw [z]; exact ⟨_, he, fun v q => nomatch q⟩
    · obtain ⟨o, vs, h1, _, h3⟩ := iterX_obj hi
      rw [z]; exact ⟨o, h1, fun v q => by rw [h3] at q; cases q⟩
  keep := fun i h h' st k => let ⟨⟨old, he⟩, hi, hne⟩ := st; ⟨⟨old, k e (by simp) _ he⟩, iterX_at hi fun o q => k it (by simp) o q, hne⟩
  item := by
    intro X hP hw hK hc i pins s σ H E I hf st hg
    subst hP hw hK
    obtain ⟨⟨old, he⟩, hit, hne⟩ := st
    obtain ⟨xs, x, hq, hx⟩ := hg
    obtain ⟨its, rv, p⟩ := sqx_is I hq
    obtain ⟨u, hu, ru⟩ := rv.get hx
    have hel : e < s.heap.objs.size := Heap.lt_size he
    have hil : it < s.heap.objs.size := iterX_lt hit
    have hai : a ≠ it := x_ne hit p
    have hae : e ≠ a := by
      rintro rfl
      cases t
      · obtain ⟨o', k1, _, n, k3⟩ := p
        rw [show s.heap.get? e = _ from he] at k1; cases k1; cases k3
      · obtain ⟨o', k1, _, n, k3⟩ := p
        rw [show s.heap.get? e = _ from he] at k1; cases k1; cases k3
    have hlt : i < its.toArray.size := by
      have := (List.getElem?_eq_some_iff.mp hu).1
      simpa using this
    refine wpAny_pyNext_enum_itemC (drawsX (A := X.A.in1) (I.ok.hd hc) t it a hai its.toArray) he ⟨hit, p⟩ hlt hne (by simp [hne, hae]) fun y h' tk hy ho st' hT hsz hk => ?_
    have ey : y = u := by
      have : its[i]? = some y := by simpa using hy
      rw [hu] at this; exact (Option.some.inj this).symm
    subst ey
    refine ⟨_, rfl, wpAny_letOwnedTupleGo_enum (s := { s with heap := h', toks := tk + 1 }) ho fun h'' he' sb => ?_⟩
    have hT2 : h''.get? s.heap.objs.size = some { cls := .type "tuple", data := .seq #[.int i tk, y] } := (sb.2 _ (Nat.ne_of_gt hel)).trans hT
    have new : ObjOk X.prog X.w (upd H s.heap.objs.size (.tup [.int (i : Nat), x])) h'' s.heap.objs.size (.tup [.int (i : Nat), x]) :=
      ⟨by show 2 ≤ sizeLine; decide, [.int i tk, y], .cons ⟨_, rfl⟩ (.cons ru .nil), ⟨_, hT2, rfl, _, rfl⟩⟩
    have I1 : L2.Inv X pins σ (upd H s.heap.objs.size (.tup [.int (i : Nat), x])) { s with heap := h'', toks := tk + 1 } :=
      I.turnedNew (ch := [e, it]) (fun b ob hb q => (sb.2 b (fun z => hb (by simp [z]))).trans (hk b ob (fun z => hb (by simp [z])) (fun z => hb (by simp [z])) q)) hf (Nat.le_refl _) new
    refine ⟨.ref s.heap.objs.size, _, I1, rfl, ⟨_, x, rfl, I.hok.fresh (Nat.le_refl _), rfl, fun ys hy => by rw [sqx_inj I hy hq]; exact hx⟩, ⟨⟨y, ?_⟩, iterX_at st'.1 fun o q => (sb.2 it (Ne.symm hne)).trans q, hne⟩, fun b hb => ?_⟩
    · have e1 : ((i + 1 : Nat) : Int) = (i : Int) + 1 := by omega
      rw [e1]; exact he'
    · have hb' : b < s.heap.objs.size := by
        have e' : b = e ∨ b = it := by simpa using hb
        rcases e' with z | z
        · rw [z]; exact hel
        · rw [z]; exact hil
      rw [upd_ne (Nat.ne_of_lt hb')]
      exact (hf b hb).1
  done := by
    intro X hP hw hK hc i pins s σ H E I hf st hg
    subst hP hw hK
    obtain ⟨⟨old, he⟩, hit, hne⟩ := st
    obtain ⟨xs, hq, hx⟩ := hg
    obtain ⟨its, rv, p⟩ := sqx_is I hq
    have hl := rv.length
    have hn : its.toArray[i]? = none := by simp; omega
    exact wpAny_pyNext_enum_endD (drawsEnd (A := X.A.in1) (I.ok.hd hc) t it a (x_ne hit p) its.toArray hn) he ⟨rfl, hit, p⟩ fun h' eb => ⟨rfl, I.turnedL (t' := s.toks) (ch := [e, it]) (fun b o hb q => eb b o (fun z => hb (by simp [z])) q) hf⟩
  self := fun A i s Q E st h => let ⟨⟨_, he⟩, _⟩ := st; wpAny_pyIter_enum he h
/-- either kind of sequence -/
def SqE (K : PySem.W.Frag) (H : Hp) (t : Bool) (v : V) (xs : List V) : Prop := ∃ a, v = .ref a ∧ SqX K t H a xs
def iEnumX (K : PySem.W.Frag) (ta : TA) : TI := fun σ H R => ta σ H fun vs H1 => ∃ t a xs, vs = [.ref a] ∧ SqX K t H1 a xs ∧ R (IteX K t a) H1
theorem pi_enumX {X : Cx} {e : Expr} {ta : TA} {p pos tpos : Pos} {elts : List Expr} {kk : Nat} (hg : Gl X "enumerate") (hm : X.mg "enumerate" = none) (ha : PA X [e] ta) (hs : starEach [e] X.env = [(false, eval e X.env)] := by rfl) :
    PI X (.Tuple elts kk tpos) (.Call (.Name "enumerate" p) [e] [] pos) (iEnumX X.K ta) := by
  refine ⟨fun pins s σ H R I h => ?_⟩
  refine Call_ (ld_blt I hg hm boot_enumerate (PyProof.Rows.callWith_type1 (thn (ha.run pos pins s σ H _ I h) fun us s1 ⟨vs, H1, I1, r1, q1⟩ => ?_) hs rfl))
  obtain ⟨t, a, xs, ex, hq, q⟩ := q1
  subst ex
  cases r1 with
  | cons r rr =>
    cases rr
    cases r
    obtain ⟨its, rv, p'⟩ := sqx_is I1 hq
    refine enum_begins1 (beginsX t a its.toArray) p' fun h' he hit hsz hk => wpAny_pyIter_enum he ?_
    have I2 : L2.Inv X pins σ H1 { s1 with heap := h' } := I1.kept (t' := s1.toks) hk
    refine ⟨s1.heap.objs.size + 1, [s1.heap.objs.size + 1, s1.heap.objs.size], _, _, H1, rfl, I2, turn_enumX t a (s1.heap.objs.size + 1) s1.heap.objs.size, ⟨⟨.none, he⟩, iterX_new hit, Nat.succ_ne_self _⟩, fun b hb => ?_, q⟩
    have e' : b = s1.heap.objs.size + 1 ∨ b = s1.heap.objs.size := by simpa using hb
    have hle : s1.heap.objs.size ≤ b := by
      rcases e' with z | z
      · rw [z]; exact Nat.le_add_right _ _
      · rw [z]; exact Nat.le_refl _
    exact I1.fpOk hle (I1.hok.fresh hle)
end PI

end

section
set_option maxRecDepth 100000
set_option maxHeartbeats 1000000
/-! PiB: zip over lists and tuples in any mix; the evaluator's rules. -/
namespace PI
open PySem PySem.Spec PyProof.Rows L2

/-- the sequences at a and b as they stand at each turn, the items in new pairs -/
def ItzX (K : PySem.W.Frag) (t t' : Bool) (a b : Addr) : It :=
  ⟨fun i H => ∃ (xs ys : List V) (x y : V), SqX K t H a xs ∧ SqX K t' H b ys ∧ xs[i]? = some x ∧ ys[i]? = some y,
    fun i H v H' => ∃ T x y, v = .ref T ∧ H T = none ∧ H' = upd H T (.tup [x, y]) ∧ (∀ xs, SqX K t H a xs → xs[i]? = some x) ∧ ∀ ys, SqX K t' H b ys → ys[i]? = some y,
    fun i H => ∃ xs ys : List V, SqX K t H a xs ∧ SqX K t' H b ys ∧ (xs.length ≤ i ∨ ys.length ≤ i)⟩
/-- where the parts of a zip lie -/
structure ZApart (z TI TO i1 i2 : Addr) : Prop where
  TIz : TI ≠ z
  TOz : TO ≠ z
  TITO : TI ≠ TO
  TIi1 : TI ≠ i1
  TIi2 : TI ≠ i2
  zi1 : z ≠ i1
  zi2 : z ≠ i2
  TOi1 : TO ≠ i1
  TOi2 : TO ≠ i2
  i12 : i1 ≠ i2
theorem pl_ne {t : Bool} {h : Heap} {a z : Addr} {its : Array Value} {c : String} {o : Obj} (p : PlX t h a its) (hz : h.get? z = some o) (hc : o.cls = .type c) (h1 : c ≠ "list") (h2 : c ≠ "tuple") : z ≠ a := by
  rintro rfl
  cases t
  · obtain ⟨o', k1, k2, _⟩ := p
    rw [hz] at k1; cases k1
    rw [hc] at k2; cases k2; exact h1 rfl
  · obtain ⟨o', k1, k2, _⟩ := p
    rw [hz] at k1; cases k1
    rw [hc] at k2; cases k2; exact h2 rfl
theorem zsep {t t' : Bool} {h : Heap} {z TI TO i1 i2 a b : Addr} {i : Nat} {us ws : Array Value} (D : ZApart z TI TO i1 i2) (nz1 : z ≠ a) (nz2 : z ≠ b) (nT1 : TO ≠ a) (nT2 : TO ≠ b)
    (h1 : IterX t h i1 a i) (h2 : IterX t' h i2 b i) (p1 : PlX t h a us) (p2 : PlX t' h b ws) : ZipSep2 z TI TO i1 i2 [i1, a] [i2, b] :=
  { TIz := D.TIz, TOz := D.TOz, TITO := D.TITO, TIi1 := D.TIi1, mem1 := by simp, zf1 := by simp [D.zi1, nz1], Tf1 := by simp [D.TOi1, nT1],
    TIi2 := D.TIi2, mem2 := by simp, zf2 := by simp [D.zi2, nz2], Tf2 := by simp [D.TOi2, nT2],
    sep1_2 := by
      have := x_ne h1 p2
      simp [D.i12, Ne.symm this], sep2_1 := by
      have := x_ne h2 p1
      simp [Ne.symm D.i12, Ne.symm this] }
theorem turn_zipX {P : Program} {w : World} {K : PySem.W.Frag} {elts : List Expr} {kk : Nat} {tpos : Pos} {t t' : Bool} {a b z TI TO i1 i2 : Addr} (D : ZApart z TI TO i1 i2) (nz1 : z ≠ a) (nz2 : z ≠ b) (nT1 : TO ≠ a) (nT2 : TO ≠ b) :
    Turn P w K (.Tuple elts kk tpos) (ItzX K t t' a b) [z, TI, TO, i1, i2] z (fun i h => IsZip h z TI TO .none ∧ IsTupOf2 h TI (.ref i1) (.ref i2) ∧ (∃ x y, IsTupOf2 h TO x y) ∧ IterX t h i1 a i ∧ IterX t' h i2 b i) where
  mem := by simp
  obj := fun i h st c hc => by
    obtain ⟨hz, hTI, ⟨x, y, hTO⟩, h1, h2⟩ := st
    have e' : c = z ∨ c = TI ∨ c = TO ∨ c = i1 ∨ c = i2 := by simpa using hc
    rcases e' with q | q | q | q | q
    · rw [q]; exact ⟨_, hz, fun v q => nomatch q⟩
    · rw [q]; exact ⟨_, hTI, fun v q => nomatch q⟩
    · rw [q]; exact ⟨_, hTO, fun v q => nomatch q⟩
    · obtain ⟨o, vs, e1, _, e3⟩ := iterX_obj h1
      rw [q]; exact ⟨o, e1, fun v q => by rw [e3] at q; cases q⟩
    · obtain ⟨o, vs, e1, _, e3⟩ := iterX_obj h2
      rw [q]; exact ⟨o, e1, fun v q => by rw [e3] at q; cases q⟩
  keep := fun i h h' st k => by
    obtain ⟨hz, hTI, ⟨x, y, hTO⟩, h1, h2⟩ := st
    exact ⟨k z (by simp) _ hz, k TI (by simp) _ hTI, ⟨x, y, k TO (by simp) _ hTO⟩, iterX_at h1 fun o q => k i1 (by simp) o q, iterX_at h2 fun o q => k i2 (by simp) o q⟩
  item := by
    intro X hP hw hK hc i pins s σ H E I hf st hg
    subst hP hw hK
    obtain ⟨hz, hTI, ⟨x0, y0, hTO⟩, h1, h2⟩ := st
    obtain ⟨xs, ys, x, y, hqx, hqy, hx, hy⟩ := hg
    obtain ⟨its, rv, p⟩ := sqx_is I hqx
    obtain ⟨its2, rv2, p2⟩ := sqx_is I hqy
    obtain ⟨u, hu, ru⟩ := rv.get hx
    obtain ⟨u2, hu2, ru2⟩ := rv2.get hy
    have hzl : z < s.heap.objs.size := Heap.lt_size hz
    have S : ZipSep2 z TI TO i1 i2 [i1, a] [i2, b] := zsep D nz1 nz2 nT1 nT2 h1 h2 p p2
    have hlt1 : i < its.toArray.size := by simpa using (List.getElem?_eq_some_iff.mp hu).1
    have hlt2 : i < its2.toArray.size := by simpa using (List.getElem?_eq_some_iff.mp hu2).1
    refine wpAny_pyNext_zipD2_item S (drawsX (A := X.A.in1) (I.ok.hd hc) t i1 a (x_ne h1 p) its.toArray) (drawsX (A := X.A.in1) (I.ok.hd hc) t' i2 b (x_ne h2 p2) its2.toArray) hz hTI hTO ⟨h1, p⟩ ⟨h2, p2⟩ hlt1 hlt2
      fun y1 y2 h' tk e1 e2 z' TO' h1' h2' hT hsz hk => ?_
    have e1' : y1 = u := by
      have : its[i]? = some y1 := by simpa using e1
      rw [hu] at this; exact (Option.some.inj this).symm
    have e2' : y2 = u2 := by
      have : its2[i]? = some y2 := by simpa using e2
      rw [hu2] at this; exact (Option.some.inj this).symm
    subst e1' e2'
    refine ⟨_, rfl, wpAny_letOwnedTupleGo_zip (s := { s with heap := h', toks := tk }) z' fun h'' z'' sb => ?_⟩
    have hT2 : h''.get? s.heap.objs.size = some { cls := .type "tuple", data := .seq #[y1, y2] } := (sb.2 _ (Nat.ne_of_gt hzl)).trans hT
    have new : ObjOk X.prog X.w (upd H s.heap.objs.size (.tup [x, y])) h'' s.heap.objs.size (.tup [x, y]) :=
      ⟨by show 2 ≤ sizeLine; decide, [y1, y2], .cons ru (.cons ru2 .nil), ⟨_, hT2, rfl, _, rfl⟩⟩
    have I1 : L2.Inv X pins σ (upd H s.heap.objs.size (.tup [x, y])) { s with heap := h'', toks := tk } :=
      I.turnedNew (ch := [z, TI, TO, i1, i2]) (fun c o hb q => (sb.2 c (fun q' => hb (by simp [q']))).trans (hk c o (fun q' => hb (by simp [q'])) (fun q' => hb (by simp [q'])) (fun q' => hb (by simp [q'])) (fun q' => hb (by simp [q'])) q)) hf (Nat.le_refl _) new
    refine ⟨.ref s.heap.objs.size, _, I1, rfl, ⟨_, x, y, rfl, I.hok.fresh (Nat.le_refl _), rfl, fun l hl => by rw [sqx_inj I hl hqx]; exact hx, fun l hl => by rw [sqx_inj I hl hqy]; exact hy⟩, ⟨z'', ?_, ⟨y1, y2, ?_⟩, ?_, ?_⟩, fun c hcm => ?_⟩
    · exact (sb.2 _ D.TIz).trans (hk _ _ D.TIz D.TITO D.TIi1 D.TIi2 hTI)
    · exact (sb.2 _ D.TOz).trans TO'
    · exact iterX_at h1'.1 fun o q => (sb.2 _ (Ne.symm D.zi1)).trans q
    · exact iterX_at h2'.1 fun o q => (sb.2 _ (Ne.symm D.zi2)).trans q
    · have hlt : c < s.heap.objs.size := by
        have e' : c = z ∨ c = TI ∨ c = TO ∨ c = i1 ∨ c = i2 := by simpa using hcm
        rcases e' with q | q | q | q | q
        · rw [q]; exact hzl
        · rw [q]; exact Heap.lt_size hTI
        · rw [q]; exact Heap.lt_size hTO
        · rw [q]; exact iterX_lt h1
        · rw [q]; exact iterX_lt h2
      rw [upd_ne (Nat.ne_of_lt hlt)]
      exact (hf c hcm).1
  done := by
    intro X hP hw hK hc i pins s σ H E I hf st hg
    subst hP hw hK
    obtain ⟨hz, hTI, ⟨x0, y0, hTO⟩, h1, h2⟩ := st
    obtain ⟨xs, ys, hqx, hqy, hend⟩ := hg
    obtain ⟨its, rv, p⟩ := sqx_is I hqx
    obtain ⟨its2, rv2, p2⟩ := sqx_is I hqy
    have l1 := rv.length
    have l2 := rv2.length
    have S : ZipSep2 z TI TO i1 i2 [i1, a] [i2, b] := zsep D nz1 nz2 nT1 nT2 h1 h2 p p2
    have fin : ∀ (h' : Heap) (tk : Nat), (∀ c o, c ≠ z → c ≠ TO → c ≠ i1 → c ≠ i2 → s.heap.get? c = some o → h'.get? c = some o) → (none : Option Value) = none ∧ L2.Inv X pins σ H { s with heap := h', toks := tk } := fun h' tk hk =>
      ⟨rfl, I.turnedL (t' := tk) (ch := [z, TI, TO, i1, i2]) (fun c o hb q => hk c o (fun q' => hb (by simp [q'])) (fun q' => hb (by simp [q'])) (fun q' => hb (by simp [q'])) (fun q' => hb (by simp [q'])) q) hf⟩
    by_cases c1 : its.length ≤ i
    · have hn : its.toArray[i]? = none := by simp; omega
      by_cases c2 : its2.length ≤ i
      · have hn2 : its2.toArray[i]? = none := by simp; omega
        exact wpAny_pyNext_zipD2_end (i := i) S (drawsEnd (A := X.A.in1) (I.ok.hd hc) t i1 a (x_ne h1 p) its.toArray hn) (drawsEnd (A := X.A.in1) (I.ok.hd hc) t' i2 b (x_ne h2 p2) its2.toArray hn2) hz hTI hTO ⟨rfl, h1, p⟩ ⟨rfl, h2, p2⟩ (Nat.le_refl _) (Nat.le_refl _) (Or.inl rfl) fin
      · exact wpAny_pyNext_zipD2_end (i := i) S (drawsEnd (A := X.A.in1) (I.ok.hd hc) t i1 a (x_ne h1 p) its.toArray hn) (drawsX (A := X.A.in1) (I.ok.hd hc) t' i2 b (x_ne h2 p2) its2.toArray) hz hTI hTO ⟨rfl, h1, p⟩ ⟨h2, p2⟩ (Nat.le_refl _) (by simp; omega) (Or.inl rfl) fin
    · have c2 : its2.length ≤ i := by omega
      have hn2 : its2.toArray[i]? = none := by simp; omega
      exact wpAny_pyNext_zipD2_end (i := i) S (drawsX (A := X.A.in1) (I.ok.hd hc) t i1 a (x_ne h1 p) its.toArray) (drawsEnd (A := X.A.in1) (I.ok.hd hc) t' i2 b (x_ne h2 p2) its2.toArray hn2) hz hTI hTO ⟨h1, p⟩ ⟨rfl, h2, p2⟩ (by simp; omega) (Nat.le_refl _) (Or.inr rfl) fin
  self := fun A i s Q E st h => wpAny_pyIter_zip st.1 h
def iZipX (K : PySem.W.Frag) (ta : TA) : TI := fun σ H R => ta σ H fun vs H1 => ∃ t t' a b xs ys, vs = [.ref a, .ref b] ∧ SqX K t H1 a xs ∧ SqX K t' H1 b ys ∧ R (ItzX K t t' a b) H1
theorem pi_zipX {X : Cx} {e e2 : Expr} {ta : TA} {p pos tpos : Pos} {elts : List Expr} {kk : Nat} (hg : Gl X "zip") (hm : X.mg "zip" = none) (ha : PA X [e, e2] ta)
    (hs : starEach [e, e2] X.env = (false, eval e X.env) :: starEach [e2] X.env := by rfl) (hpl : (backTo pos (starEach [e2] X.env)).any (·.1) = false := by rfl) :
    PI X (.Tuple elts kk tpos) (.Call (.Name "zip" p) [e, e2] [] pos) (iZipX X.K ta) := by
  refine ⟨fun pins s σ H R I h => ?_⟩
  refine Call_ (ld_blt I hg hm PyProof.Rows.boot_zip (PyProof.Rows.callWith_type1 (thn (ha.run pos pins s σ H _ I h) fun us s1 ⟨vs, H1, I1, r1, q1⟩ => ?_) hs hpl))
  obtain ⟨t, t', a, b, xs, ys, ex, hqx, hqy, q⟩ := q1
  subst ex
  cases r1 with
  | cons r rr =>
    cases rr with
    | cons r' rr =>
      cases rr
      cases r
      cases r'
      obtain ⟨its, rv, p1⟩ := sqx_is I1 hqx
      obtain ⟨its2, rv2, p2⟩ := sqx_is I1 hqy
      have la := plX_lt p1
      have lb := plX_lt p2
      refine zip_begins2 (beginsX t a its.toArray) (beginsX t' b its2.toArray) p1 p2 fun h' hz hTI hTO h1 h2 hsz hk => wpAny_pyIter_zip hz ?_
      have I2 : L2.Inv X pins σ H1 { s1 with heap := h' } := I1.kept (t' := s1.toks) hk
      generalize hN : s1.heap.objs.size = N at *
      have D : ZApart (N + 4) (N + 2) (N + 3) N (N + 1) := ⟨by show (N + 2 : Nat) ≠ N + 4; omega, by show (N + 3 : Nat) ≠ N + 4; omega, by show (N + 2 : Nat) ≠ N + 3; omega, by show (N + 2 : Nat) ≠ N; omega, by show (N + 2 : Nat) ≠ N + 1; omega,
        by show (N + 4 : Nat) ≠ N; omega, by show (N + 4 : Nat) ≠ N + 1; omega, by show (N + 3 : Nat) ≠ N; omega, by show (N + 3 : Nat) ≠ N + 1; omega, by show (N : Nat) ≠ N + 1; omega⟩
      have big : ∀ (x : Addr) (j : Nat), x < N → (N + j : Nat) ≠ x := fun x j h q => by
        have h' := Nat.lt_of_lt_of_le h (Nat.le_add_right N j)
        rw [q] at h'
        exact Nat.lt_irrefl _ h'
      refine ⟨N + 4, [N + 4, N + 2, N + 3, N, N + 1], _, _, H1, rfl, I2, turn_zipX D (big a 4 la) (big b 4 lb) (big a 3 la) (big b 3 lb), ⟨hz, hTI, ⟨_, _, hTO⟩, iterX_new h1, iterX_new h2⟩, fun c hcm => ?_, q⟩
      have e' : c = N + 4 ∨ c = N + 2 ∨ c = N + 3 ∨ c = N ∨ c = N + 1 := by simpa using hcm
      have hle : s1.heap.objs.size ≤ c := by
        rw [hN]
        rcases e' with z | z | z | z | z
        · rw [z]; exact Nat.le_add_right _ _
        · rw [z]; exact Nat.le_add_right _ _
        · rw [z]; exact Nat.le_add_right _ _
        · rw [z]; exact Nat.le_refl _
        · rw [z]; exact Nat.le_add_right _ _
      exact I1.fpOk hle (I1.hok.fresh hle)
/-! ### the evaluator's -/
theorem it_enumX {K : PySem.W.Frag} {F : Hp} {t : Bool} {a : Addr} {vs : List V} {ds : List D} (s : SqX K t F a vs) (r : RepAll K F ds vs) : ItOk K F (IteX K t a) (enumD 0 ds) := fun F2 H2 i l l2 => by
  have s2 := SqX.mono (l.trans l2) s
  refine ⟨fun d e => ?_, fun h => ⟨vs, s2, by rw [r.length]; simpa [enumD_length] using h⟩⟩
  rw [enumD_get] at e
  cases q : ds[i]? with
  | none => rw [q] at e; cases e
  | some d' =>
    rw [q] at e
    simp only [Option.map_some, Option.some.injEq] at e
    subst e
    obtain ⟨v, hv, rv⟩ := r.get q
    refine ⟨⟨vs, v, s2, hv⟩, fun x H3 y => ?_⟩
    obtain ⟨T, z, rfl, hT, rfl, y⟩ := y
    have := y vs s2
    rw [hv] at this; cases this
    exact ⟨_, new_pair l2 hT (by unfold Rep; simp) (Rep.mono l _ _ rv)⟩
theorem it_zipX {K : PySem.W.Frag} {F : Hp} {t t' : Bool} {a b : Addr} {vs ws : List V} {ds es : List D} (s : SqX K t F a vs) (s' : SqX K t' F b ws) (r : RepAll K F ds vs) (r' : RepAll K F es ws) : ItOk K F (ItzX K t t' a b) (zipD ds es) := fun F2 H2 i l l2 => by
  have s2 := SqX.mono (l.trans l2) s
  have s2' := SqX.mono (l.trans l2) s'
  refine ⟨fun d e => ?_, fun h => ⟨vs, ws, s2, s2', by rw [r.length, r'.length]; rw [zipD_length] at h; omega⟩⟩
  obtain ⟨d1, d2, h1, h2, rfl⟩ := zipD_get e
  obtain ⟨v, hv, rv⟩ := r.get h1
  obtain ⟨w, hw, rw'⟩ := r'.get h2
  refine ⟨⟨vs, ws, v, w, s2, s2', hv, hw⟩, fun x H3 y => ?_⟩
  obtain ⟨T, z, z', rfl, hT, rfl, y, y'⟩ := y
  have := y vs s2
  rw [hv] at this; cases this
  have := y' ws s2'
  rw [hw] at this; cases this
  exact ⟨_, new_pair l2 hT (Rep.mono l _ _ rv) (Rep.mono l _ _ rw')⟩
/-- the items of a list or a tuple -/
def seqOf : D → Option (List D)
  | .lst xs => some xs
  | .tup xs => some xs
  | _ => none
def ikEnumX : List D → Option (List D)
  | [d] => (seqOf d).map (enumD 0)
  | _ => none
def ikZipX : List D → Option (List D)
  | [d, e] => match seqOf d, seqOf e with
    | some xs, some ys => some (zipD xs ys)
    | _, _ => none
  | _ => none
theorem seqOf_rep {K : PySem.W.Frag} {F H : Hp} {d : D} {xs : List D} {v : V} (l : FLe F H) (h : seqOf d = some xs) (r : Rep K F d v) : ∃ t a vs, v = .ref a ∧ SqX K t F a vs ∧ SqX K t H a vs ∧ RepAll K F xs vs := by
  cases d with
  | lst ds =>
    cases h
    obtain ⟨a, vs, rfl, s, ra⟩ := r
    exact ⟨false, a, vs, rfl, SqL.of s, SqL.of (l _ _ s), ra⟩
  | tup ds =>
    cases h
    obtain ⟨a, vs, rfl, s, ra⟩ := r
    exact ⟨true, a, vs, rfl, s, SqT.mono l s, ra⟩
  | _ => cases h
section
variable {X : Cx} {XC : Str → Value → Prop} {C : Calls} {W : WX} {tg l a b : Expr} {A B : E} {p pos : Pos}
theorem si_enumX {elts : List Expr} {kk : Nat} {tpos : Pos} (hg : Gl X "enumerate") (hm : X.mg "enumerate" = none) (ha : PA X [a] (tFs X.K XC C W [A])) (hs : starEach [a] X.env = [(false, eval a X.env)] := by rfl) : PI X (.Tuple elts kk tpos) (.Call (.Name "enumerate" p) [a] [] pos) (tIt X.K XC C W ikEnumX [A]) := (pi_enumX hg hm ha hs).imp' fun σ H R h => by
  refine tIt_bind h fun F1 H1 ds xs vs hx l r g => ?_
  unfold ikEnumX at hx
  split at hx
  · rename_i d
    cases q : seqOf d with
    | none => rw [q] at hx; cases hx
    | some ys =>
      rw [q] at hx
      cases hx
      obtain ⟨v, vr, rfl, q1, q2⟩ := r
      cases (show vr = [] from q2)
      obtain ⟨t, a, us, rfl, s, s', ra⟩ := seqOf_rep l q q1
      exact ⟨t, a, us, rfl, s', g _ (it_enumX s ra)⟩
  · cases hx
theorem si_zipX {elts : List Expr} {kk : Nat} {tpos : Pos} (hg : Gl X "zip") (hm : X.mg "zip" = none) (ha : PA X [a, b] (tFs X.K XC C W [A, B])) (hs : starEach [a, b] X.env = (false, eval a X.env) :: starEach [b] X.env := by rfl) (hpl : (backTo pos (starEach [b] X.env)).any (·.1) = false := by rfl) :
    PI X (.Tuple elts kk tpos) (.Call (.Name "zip" p) [a, b] [] pos) (tIt X.K XC C W ikZipX [A, B]) := (pi_zipX hg hm ha hs hpl).imp' fun σ H R h => by
  refine tIt_bind h fun F1 H1 ds xs vs hx l r g => ?_
  unfold ikZipX at hx
  split at hx
  · rename_i d e
    cases q : seqOf d with
    | none => rw [q] at hx; cases hx
    | some ys =>
      cases q' : seqOf e with
      | none => rw [q, q'] at hx; cases hx
      | some zs =>
        rw [q, q'] at hx
        cases hx
        obtain ⟨v, vr, rfl, q1, w, wr, rfl, q2, q3⟩ := r
        cases (show wr = [] from q3)
        obtain ⟨t, a, us, rfl, s, s1, ra⟩ := seqOf_rep l q q1
        obtain ⟨t', b, ws, rfl, s', s1', rb⟩ := seqOf_rep l q' q2
        exact ⟨t, t', a, b, us, ws, rfl, s1, s1', g _ (it_zipX s s' ra rb)⟩
  · cases hx
end
end PI

end

section
set_option maxRecDepth 100000
set_option maxHeartbeats 4000000
/-! PiD: a tuple times a number; min, max of a list; membership; pairs of comparisons. -/
namespace PI
open PySem PySem.Spec PyProof.Rows L2

theorem tuple_mul_same (l : Addr) (items : Array Value) (n : Nat) (dd : Option Addr) (sl : Array (Option Value)) (x : Int) (u : Tok) (c0 : (decide (x < -(2 ^ 63)) || decide (x ≥ 2 ^ 63)) = false) (c1 : (items.isEmpty || x == 1) = true) :
    Meets (Builtin.«tuple.__mul__» ⟨[.ref l, .int x u], []⟩) (fun _ R s => s.heap.get? l = some { cls := .type "tuple", dict := dd, data := .seq items n, slots := sl } ∧
      R (.ok (.ret (Value.ref l))) s) :=
  .of_wp fun prog w A R s h => by
    obtain ⟨hp, g, d, tk, os⟩ := s
    obtain ⟨hl, h⟩ := h
    have f1 := AutoSeq1.idx_int
    wp_walk using AutoSeq1.wpAny_loadPart' hl
    repeat (first
      | (refine wpAny_ite_false (decide_eq_false (by rw [c0]; exact Bool.false_ne_true)) ?_; wp_walk using AutoSeq1.wpAny_loadPart' hl)
      | (refine wpAny_ite_true (decide_eq_true c1) ?_; wp_walk using AutoSeq1.wpAny_loadPart' hl))
    exact ⟨_, rfl, h⟩
theorem tuple_mul_none (l : Addr) (items : Array Value) (n : Nat) (dd : Option Addr) (sl : Array (Option Value)) (x : Int) (u : Tok) (c0 : (decide (x < -(2 ^ 63)) || decide (x ≥ 2 ^ 63)) = false) (c1 : (items.isEmpty || x == 1) = false) (c2 : (decide (x ≤ 0) || items.isEmpty) = true) :
    Meets (Builtin.«tuple.__mul__» ⟨[.ref l, .int x u], []⟩) (fun _ R s => s.heap.get? l = some { cls := .type "tuple", dict := dd, data := .seq items n, slots := sl } ∧
      R (.ok (.ret (Value.ref s.heap.objs.size))) { s with heap := s.heap.push { cls := Value.type "tuple", data := Data.seq #[] }, toks := s.toks }) :=
  .of_wp fun prog w A R s h => by
    obtain ⟨hp, g, d, tk, os⟩ := s
    obtain ⟨hl, h⟩ := h
    have f1 := AutoSeq1.idx_int
    wp_walk using AutoSeq1.wpAny_loadPart' hl
    repeat (first
      | (refine wpAny_ite_false (decide_eq_false (by rw [c0]; exact Bool.false_ne_true)) ?_; wp_walk using AutoSeq1.wpAny_loadPart' hl)
      | (refine wpAny_ite_false (decide_eq_false (by rw [c1]; exact Bool.false_ne_true)) ?_; wp_walk using AutoSeq1.wpAny_loadPart' hl)
      | (refine wpAny_ite_true (decide_eq_true c2) ?_; wp_walk using AutoSeq1.wpAny_loadPart' hl))
    exact ⟨_, rfl, h⟩
def rRepA (K : PySem.W.Frag) : R2 := fun x y H Q => ∃ l k xs, x = .ref l ∧ y = .int k ∧ SqT K H l xs ∧ -(2 ^ 63) ≤ k ∧ k < 2 ^ 63 ∧ xs.length * k.toNat ≤ sizeLine ∧
  ((xs = [] ∨ k = 1) → Q (.ref l) H) ∧ (¬(xs = [] ∨ k = 1) → ∀ p, H p = none → Q (.ref p) (upd H p (.tup (List.replicate k.toNat xs).flatten)))
theorem op_repA {X : Cx} : OpR X (binaryOp .Mult) (rRepA X.K) := by
  intro pins s σ H x y v u Q I rx ry h
  obtain ⟨l, k, xs, rfl, rfl, hT, h1, h2, hz, q1, q2⟩ := h
  cases rx
  obtain ⟨t, rfl⟩ := ry
  obtain ⟨its, r, ⟨⟨cls, dd, data, sl⟩, ho, hc, n, hd⟩, hs⟩ := I.tuple hT
  simp only at hc hd
  subst hc hd
  have hle : its.length = xs.length := r.length.symm
  have c0 : (decide (k < -(2 ^ 63)) || decide (k ≥ 2 ^ 63)) = false := by
    rw [decide_eq_false (by omega), decide_eq_false (by omega)] <;> rfl
  have emp : its.toArray.isEmpty = decide (xs = []) := by
    cases its with
    | nil =>
      have : xs = [] := List.eq_nil_of_length_eq_zero hle.symm
      simp [this]
    | cons a b =>
      cases xs with
      | nil => simp at hle
      | cons _ _ => simp
  by_cases c : xs = [] ∨ k = 1
  · have c1 : (its.toArray.isEmpty || k == 1) = true := by
      rw [emp]
      rcases c with c | c
      · simp [c]
      · simp [c]
    refine wpAny_binaryOp_repeat_ref (T := "tuple") (U := "int") (by decide) ⟨_, ho, rfl⟩ (fun s' => typeIs_int s' k t) noFill_tuple_mul F.fills_int_mul F.slot_int_rmul repeat_tuple F.slot_int_index.lookup
      (call_meets F.slot_int_rmul (typeIs_int s k t) F.entry_int_rmul (F.args_int_rmul_2 _ _) (int_rmul_tuple k t l its.toArray n dd sl)
        ⟨ho, rfl, ⟨_, ho, rfl⟩, call_meets F.slot_tuple_mul ⟨_, ho, rfl⟩ F.entry_tuple_mul (F.args_tuple_mul_2 _ _) (tuple_mul_same l its.toArray n dd sl k t c0 c1) ⟨ho, ?_⟩⟩)
    exact ⟨.ref l, H, I, rfl, q1 c⟩
  · have c1 : (its.toArray.isEmpty || k == 1) = false := by
      rw [emp]
      simp only [not_or] at c
      simp [c.1, c.2]
    have q := q2 c
    by_cases c' : k ≤ 0
    · have c2 : (decide (k ≤ 0) || its.toArray.isEmpty) = true := by simp [c']
      refine wpAny_binaryOp_repeat_ref (T := "tuple") (U := "int") (by decide) ⟨_, ho, rfl⟩ (fun s' => typeIs_int s' k t) noFill_tuple_mul F.fills_int_mul F.slot_int_rmul repeat_tuple F.slot_int_index.lookup
        (call_meets F.slot_int_rmul (typeIs_int s k t) F.entry_int_rmul (F.args_int_rmul_2 _ _) (int_rmul_tuple k t l its.toArray n dd sl)
          ⟨ho, rfl, ⟨_, ho, rfl⟩, call_meets F.slot_tuple_mul ⟨_, ho, rfl⟩ F.entry_tuple_mul (F.args_tuple_mul_2 _ _) (tuple_mul_none l its.toArray n dd sl k t c0 c1 c2) ⟨ho, ?_⟩⟩)
      have e : k.toNat = 0 := by omega
      have q' := q
      rw [e] at q'
      refine ⟨.ref s.heap.objs.size, _, I.laid (t' := s.toks) (o := .tup []) (fun b ob q => Heap.get?_push_of_some _ q) (Nat.le_refl _) ?_, rfl, q' _ (I.hok.fresh (Nat.le_refl _))⟩
      exact ⟨by rw [sizeLine_eq]; decide, [], .nil, ⟨_, Heap.get?_push_size _ rfl, rfl, _, rfl⟩⟩
    · have hn : its ≠ [] := fun e => c (.inl (List.eq_nil_of_length_eq_zero (by rw [← hle, e]; rfl)))
      have hi : its.toArray.isEmpty = false := by rw [emp]; simp; intro e; exact c (.inl e)
      have hsz0 : its.toArray.size = xs.length := by rw [List.size_toArray, hle]
      have hk : ((k.toNat : Nat) : Int) = k := by omega
      have hm : ((its.toArray.size : Nat) : Int) * k ≤ (sizeLine : Nat) := by
        rw [hsz0, ← hk]
        exact_mod_cast hz
      have flen : (List.replicate k.toNat its).flatten.length ≤ sizeLine := by
        rw [PyProof.Rows.lm_len_rep_flat, hle, Nat.mul_comm]
        exact hz
      have c2 : (decide (k ≤ 0) || its.toArray.isEmpty) = false := by
        rw [hi, Bool.or_false]
        exact decide_eq_false c'
      have c4 : Builtin.Tuple.tupleTooMany (((its.toArray.size : Nat) : Int) * k) = false := by
        unfold Builtin.Tuple.tupleTooMany
        exact decide_eq_false (by omega)
      have sl' : (sizeLine : Nat) = 16777216 := sizeLine_eq
      refine wpAny_binaryOp_repeat_ref (T := "tuple") (U := "int") (by decide) ⟨_, ho, rfl⟩ (fun s' => typeIs_int s' k t) noFill_tuple_mul F.fills_int_mul F.slot_int_rmul repeat_tuple F.slot_int_index.lookup
        (call_meets F.slot_int_rmul (typeIs_int s k t) F.entry_int_rmul (F.args_int_rmul_2 _ _) (int_rmul_tuple k t l its.toArray n dd sl)
          ⟨ho, rfl, ⟨_, ho, rfl⟩, call_meets F.slot_tuple_mul ⟨_, ho, rfl⟩ F.entry_tuple_mul (F.args_tuple_mul_2 _ _) (tuple_mulW l its.toArray n dd sl k t c0 c1 c2 (by omega) c4 (by rw [size_rep, List.size_toArray]; exact flen)) ⟨ho, ?_⟩⟩)
      rw [size_rep]
      refine ⟨.ref s.heap.objs.size, _, I.laid (t' := s.toks) (o := .tup (List.replicate k.toNat xs).flatten) (fun b ob q => Heap.get?_push_of_some _ q) (Nat.le_refl _) ?_, rfl, q _ (I.hok.fresh (Nat.le_refl _))⟩
      exact ⟨by rw [PyProof.Rows.lm_len_rep_flat, Nat.mul_comm]; exact hz, _, r.rep k.toNat, IsTup.new _ _⟩
end PI

end

section
set_option maxRecDepth 100000
set_option maxHeartbeats 1000000
/-! PiE: more prims; pairs of comparisons. -/
namespace PI
open PySem PySem.Spec PyProof.Rows L2
def pmulX : List D → Option Ent
  | [.tup a, .int k] => if k.natAbs < 9223372036854775808 ∧ a.length * k.toNat ≤ sizeLine then some (.fz (.tup (List.replicate k.toNat a).flatten)) else none
  | ds => pmul ds
def intsD : List D → Option (List Int)
  | [] => some []
  | .int i :: ds => (intsD ds).map (i :: ·)
  | _ :: _ => none
def pmax1 : List D → Option Ent
  | [.lst ds] => match intsD ds with
    | some (n :: ns) => some (.fz (.int (ns.foldl max n)))
    | _ => none
  | _ => none
def pmin1 : List D → Option Ent
  | [.lst ds] => match intsD ds with
    | some (n :: ns) => some (.fz (.int (ns.foldl min n)))
    | _ => none
  | _ => none
def psum : List D → Option Ent
  | [.lst ds] => match intsD ds with
    | some ns => some (.fz (.int ns.sum))
    | _ => none
  | _ => none
section
variable {X : Cx} {K : PySem.W.Frag}
theorem po_mulX : OpR X (binaryOp .Mult) (rP2 X.K pmulX) := (po_mul.or op_repA).imp' fun x y H Q h => by
  obtain ⟨F, ds, res, l, R, e, hr, q⟩ := h
  unfold pmulX at e; split at e
  · rename_i _ a0 k0
    split at e
    · rename_i hc
      cases e
      obtain ⟨v1, v2, e1, r1, r2⟩ := rd2 R
      cases e1; cases r2.int
      obtain ⟨a, vs, rfl, s1, q1⟩ := r1.titems
      refine .inr ⟨a, _, vs, rfl, rfl, SqT.mono l s1, by omega, by omega, by rw [q1.length]; exact hc.2, fun c => ?_, fun c p hp => q _ _ _ (new_tup l hp (q1.flatrep _))⟩
      refine q F H _ (new_scal l ?_)
      have e1 : (List.replicate k0.toNat vs).flatten = vs := by
        rcases c with c | c
        · subst c; simp
        · rw [c]; simp
      have h9 := q1.flatrep k0.toNat
      rw [e1] at h9
      exact ⟨a, vs, rfl, s1, h9⟩
    · cases e
  · exact .inl ⟨F, _, res, l, R, e, hr, q⟩
theorem intsD_rep {F : Hp} : ∀ {ds : List D} {ns : List Int} {vs : List V}, intsD ds = some ns → RepAll K F ds vs → vs = ns.map V.int
  | [], ns, vs, h, r => by
    cases (show vs = [] from r)
    cases h; rfl
  | d :: ds, ns, vs, h, r => by
    obtain ⟨v, w, rfl, r1, r2⟩ := r
    cases d with
    | int i =>
      unfold intsD at h
      cases q : intsD ds with
      | none => rw [q] at h; cases h
      | some ms =>
        rw [q] at h
        cases h
        cases (show v = _ from r1)
        rw [intsD_rep q r2]; rfl
    | _ => cases h
theorem foldl_max_ge : ∀ (ns : List Int) (n : Int), n ≤ ns.foldl max n ∧ ∀ y ∈ ns, y ≤ ns.foldl max n
  | [], n => ⟨Int.le_refl _, fun y h => by cases h⟩
  | m :: ns, n => by
    obtain ⟨h1, h2⟩ := foldl_max_ge ns (max n m)
    refine ⟨by simp only [List.foldl_cons]; omega, fun y h => ?_⟩
    simp only [List.foldl_cons]
    rcases List.mem_cons.mp h with rfl | h
    · omega
    · exact h2 y h
theorem foldl_min_le : ∀ (ns : List Int) (n : Int), ns.foldl min n ≤ n ∧ ∀ y ∈ ns, ns.foldl min n ≤ y
  | [], n => ⟨Int.le_refl _, fun y h => by cases h⟩
  | m :: ns, n => by
    obtain ⟨h1, h2⟩ := foldl_min_le ns (min n m)
    refine ⟨by simp only [List.foldl_cons]; omega, fun y h => ?_⟩
    simp only [List.foldl_cons]
    rcases List.mem_cons.mp h with rfl | h
    · omega
    · exact h2 y h
theorem foldl_max_mem : ∀ (ns : List Int) (n : Int), ns.foldl max n ∈ n :: ns
  | [], n => by simp
  | m :: ns, n => by
    have := foldl_max_mem ns (max n m)
    simp only [List.foldl_cons]
    rcases List.mem_cons.mp this with h | h
    · rw [h]
      by_cases c : n ≤ m
      · rw [Int.max_eq_right c]; simp
      · rw [Int.max_eq_left (by omega)]; simp
    · simp [h]
theorem foldl_min_mem : ∀ (ns : List Int) (n : Int), ns.foldl min n ∈ n :: ns
  | [], n => by simp
  | m :: ns, n => by
    have := foldl_min_mem ns (min n m)
    simp only [List.foldl_cons]
    rcases List.mem_cons.mp this with h | h
    · rw [h]
      by_cases c : n ≤ m
      · rw [Int.min_eq_left c]; simp
      · rw [Int.min_eq_right (by omega)]; simp
    · simp [h]
theorem pc_max1 (hc : X.calm = true) : CallR X (.builtin "max") (rPn X.K pmax1) := (cr_max hc).imp' fun vs H Q h => by
  obtain ⟨F, ds, res, l, R, e, hr, q⟩ := h
  unfold pmax1 at e; split at e
  · split at e
    · rename_i n ns hi
      cases e
      obtain ⟨v1, rfl, r1⟩ := rd1 R
      obtain ⟨a, ws, rfl, s, r⟩ := r1.items l
      refine ⟨a, n :: ns, rfl, ?_, by simp, fun m hm hy => ?_⟩
      · rw [← intsD_rep hi r]; exact SqL.of s
      · have : m = ns.foldl max n := by
          have h1 := foldl_max_ge ns n
          have h2 := hy _ (foldl_max_mem ns n)
          rcases List.mem_cons.mp hm with rfl | hm
          · omega
          · have := h1.2 m hm; omega
        exact q F H _ (new_scal l (by unfold Rep; rw [this]))
    · cases e
  · cases e
theorem pc_min1 (hc : X.calm = true) : CallR X (.builtin "min") (rPn X.K pmin1) := (cr_min hc).imp' fun vs H Q h => by
  obtain ⟨F, ds, res, l, R, e, hr, q⟩ := h
  unfold pmin1 at e; split at e
  · split at e
    · rename_i n ns hi
      cases e
      obtain ⟨v1, rfl, r1⟩ := rd1 R
      obtain ⟨a, ws, rfl, s, r⟩ := r1.items l
      refine ⟨a, n :: ns, rfl, ?_, by simp, fun m hm hy => ?_⟩
      · rw [← intsD_rep hi r]; exact SqL.of s
      · have : m = ns.foldl min n := by
          have h1 := foldl_min_le ns n
          have h2 := hy _ (foldl_min_mem ns n)
          rcases List.mem_cons.mp hm with rfl | hm
          · omega
          · have := h1.2 m hm; omega
        exact q F H _ (new_scal l (by unfold Rep; rw [this]))
    · cases e
  · cases e
theorem pc_sum (hc : X.calm = true) : CallR X (.builtin "sum") (rPn X.K psum) := (cr_sum hc).imp' fun vs H Q h => by
  obtain ⟨F, ds, res, l, R, e, hr, q⟩ := h
  unfold psum at e; split at e
  · split at e
    · rename_i ns hi
      cases e
      obtain ⟨v1, rfl, r1⟩ := rd1 R
      obtain ⟨a, ws, rfl, s, r⟩ := r1.items l
      exact ⟨a, ns, rfl, by rw [← intsD_rep hi r]; exact SqL.of s, q F H _ (new_scal l (by unfold Rep; rfl))⟩
    · cases e
  · cases e
end
/-! ### a < b < c -/
section
variable {X : Cx} {XC : Str → Value → Prop} {C : Calls} {W : WX} {a b c : Expr} {A B D' : E} {f g : List D → Option Ent} {pos : Pos}
theorem pn_mid {β : Type} {K : PySem.W.Frag} {F F1 H H1 : Hp} {env env1 : En} {σ : L2.St} {xs : List Opd} {vs : List V} {Q : VK} {k : Ent → En → Res β} {p : β → En → Prop} {q : Str → List D → En → Prop} (P : Post K F env σ H F1 env1 (xs.map Opd.pe) vs H1) (o : OpdsAt σ xs vs)
    (h : ((onD f (allD env1 xs) env1).bind k).wish p q) (g : ∀ ds r, f ds = some r → r ≠ .un → (k r env1).wish p q → ∀ F' H' v, New K F1 H1 F' H' r v → Q v H') : rPn K f vs H1 Q := by
  cases e : allD env1 xs with
  | none => rw [e] at h; exact h.elim
  | some ds =>
    rw [e] at h
    have R : RdAll K F1 H1 ds vs := St.opds (pre := []) (ps := []) (by simpa using P.st) P.len rfl o e
    cases e2 : f ds with
    | none => simp only [onD, e2, retE, Res.bind, Res.wish] at h
    | some r =>
      cases r with
      | un => simp only [onD, e2, retE, Res.bind, Res.wish] at h
      | fz d =>
        simp only [onD, e2, retE, Res.bind] at h
        exact ⟨F1, ds, _, P.base.le, R, e2, by simp, fun F' H' v n => g ds _ e2 (by simp) h F' H' v n⟩
      | ow d =>
        simp only [onD, e2, retE, Res.bind] at h
        exact ⟨F1, ds, _, P.base.le, R, e2, by simp, fun F' H' v n => g ds _ e2 (by simp) h F' H' v n⟩
theorem t_chain {σ : L2.St} {H : Hp} {Q : VK} (hf : ∀ ds r, f ds = some r → ∃ b, r = .fz (.bl b)) (h : tE X.K XC C W (.chain f g A B D') σ H Q) : tChain (rP2 X.K f) (rP2 X.K g) (tO X.K XC C W A) (tO X.K XC C W B) (tO X.K XC C W D') σ H Q := by
  refine tM_bind (m := opnd (ev C A) A) (f := fun x e => (opnd (ev C B) B e).bind fun y e => (onD f (allD e [x, y]) e).bind fun r e => (boolE r e).bind fun t e =>
      if t = true then (opnd (ev C D') D' e).bind fun z e => onD g (allD e [y, z]) e else .ok (.fz (.bl false)) e) (peβ := fun r => [r]) (okβ := okR) (Q := one Q) (by
    have : ev C (.chain f g A B D') = fun e => (opnd (ev C A) A e).bind fun x e => (opnd (ev C B) B e).bind fun y e => (onD f (allD e [x, y]) e).bind fun r e => (boolE r e).bind fun t e =>
      if t = true then (opnd (ev C D') D' e).bind fun z e => onD g (allD e [y, z]) e else .ok (.fz (.bl false)) e := by
      funext e; rw [ev]
    rw [← this]; exact h) fun F env F1 env1 x vs H1 S em P o gg v ev_ => ?_
  obtain ⟨v', rfl, o⟩ := o
  cases ev_
  refine tM_next P ?_
  cases e : opnd (ev C B) B env1 with
  | ok y env2 =>
    rw [e] at gg
    intro F2 H2 ws P2 o2 w ew
    obtain ⟨w', rfl, o2⟩ := o2
    cases ew
    refine pn_mid (xs := [x, y]) (P.seq P2) ⟨_, _, rfl, o, _, [], rfl, o2, rfl⟩ gg fun ds r e3 hr hk F' H' u n => ?_
    obtain ⟨t, rfl⟩ := hf ds r e3
    have PN : Post X.K F2 env2 σ H2 F' env2 [.fz (.bl t)] [u] H' := Post.new P2.base n
    have eu : u = .bl t := by
      have := n.ent
      exact this
    refine ⟨t, eu, ?_⟩
    cases t with
    | true =>
      rw [if_pos rfl]
      simp only [boolE, Res.bind, if_pos] at hk
      have PA : Post X.K F env σ H F' env2 [.fz (.bl true)] [u] H' := (P.drop P2).drop PN
      refine tM_next PA ?_
      cases e4 : opnd (ev C D') D' env2 with
      | ok z env3 =>
        rw [e4] at hk
        intro F3 H3 us P3 o3 w3 ew3
        obtain ⟨w3', rfl, o3⟩ := o3
        cases ew3
        exact pn_end (xs := [y, z]) (P.drop (P2.seq (PN.drop P3))) ⟨_, _, rfl, o2, _, [], rfl, o3, rfl⟩ hk
      | ex c ps env3 => rw [e4] at hk; exact hk
      | no => rw [e4] at hk; exact hk
    | false =>
      rw [if_neg (by decide)]
      simp only [boolE, Res.bind] at hk
      exact hk F' H' [.bl false] (by rw [← eu]; exact (P.drop P2).drop PN) ⟨by simp, _, rfl⟩ _ rfl
  | ex c ps env2 => rw [e] at gg; exact gg
  | no => rw [e] at gg; exact gg
theorem se_chain {op op' : CmpOp} (ho : OpR X (compareOp op) (rP2 X.K f)) (hf : ∀ ds r, f ds = some r → ∃ b, r = .fz (.bl b)) (ho' : OpR X (compareOp op') (rP2 X.K g)) (ha : PE X a (tO X.K XC C W A)) (hb : PE X b (tO X.K XC C W B)) (hc : PE X c (tO X.K XC C W D'))
    (hm : lastMarks [op, op'] [b, c] = false := by with_unfolding_all rfl) : PE X (.Compare a [op, op'] [b, c] pos) (tE X.K XC C W (.chain f g A B D')) := (pe_chain ho ho' ha hb hc (hm := hm)).imp' fun _ _ _ => t_chain hf
theorem ev_chain_res {env env1 : En} {r : Ent} (h : ev C (.chain f g A B D') env = .ok r env1) : (∃ b, r = .fz (.bl b)) ∨ ∃ ds, g ds = some r := by
  rw [ev] at h
  obtain ⟨x, e1, _, h⟩ := Res.bind_ok h
  obtain ⟨y, e2, _, h⟩ := Res.bind_ok h
  obtain ⟨r0, e3, _, h⟩ := Res.bind_ok h
  obtain ⟨t, e4, _, h⟩ := Res.bind_ok h
  split at h
  · obtain ⟨z, e5, _, h⟩ := Res.bind_ok h
    unfold onD at h
    split at h
    · unfold retE at h
      split at h
      · cases h
      · rename_i ds _ r' hn e
        cases h
        exact .inr ⟨_, e⟩
      · cases h
    · cases h
  · cases h
    exact .inl ⟨_, rfl⟩
theorem st_chain {op op' : CmpOp} (ho : OpR X (compareOp op) (rP2 X.K f)) (hf : ∀ ds r, f ds = some r → ∃ b, r = .fz (.bl b)) (ho' : OpR X (compareOp op') (rP2 X.K g)) (hg : ∀ ds r, g ds = some r → ∃ b, r = .fz (.bl b)) (ha : PE X a (tO X.K XC C W A)) (hb : PE X b (tO X.K XC C W B)) (hc : PE X c (tO X.K XC C W D'))
    (hm : lastMarks [op, op'] [b, c] = false := by with_unfolding_all rfl) : PT X (.Compare a [op, op'] [b, c] pos) (tT X.K XC C W (.e (.chain f g A B D'))) :=
  (pt_chain ho ho' ha hb hc (hm := hm)).imp' fun σ H Q h => by
    refine t_chain (f := f) hf (Q := fun x H' => ∃ k, x = .bl k ∧ Q k H') ?_
    refine tM_bind (m := ev C (.chain f g A B D')) (f := fun r e => onB r e) (peβ := fun _ => []) (okβ := fun _ _ _ => True) (Q := fun b _ => Q b) (by
      have : evT C (.e (.chain f g A B D')) = fun e => (ev C (.chain f g A B D') e).bind fun r e => onB r e := by
        funext e; rw [evT]; unfold opnd isVar
        show Res.bind (Res.bind _ _) _ = _
        cases ev C (.chain f g A B D') e <;> rfl
      rw [← this]; exact h) fun F env F1 env1 r vs H1 S em P o g' v ev_ => ?_
    obtain ⟨hr, v', rfl⟩ := o
    cases ev_
    cases e : onB r env1 with
    | ok b env2 =>
      obtain ⟨rfl, d, h1, h2⟩ := onB_ok e
      rw [e] at g'
      have hb' : r = .fz (.bl b) := by
        have : ∃ c, r = .fz (.bl c) := by
          rcases ev_chain_res em with h | ⟨ds, e3⟩
          · exact h
          · exact hg ds r e3
        obtain ⟨c, rfl⟩ := this
        cases h1
        cases h2
        rfl
      subst hb'
      exact ⟨b, P.st.lastEnt P.len hr, g' F1 H1 [] (Post.of P.base P.bext) trivial⟩
    | ex => exact (onB_noex e).elim
    | no => rw [e] at g'; exact g'.elim
end
end PI

end

section
set_option maxRecDepth 100000
set_option maxHeartbeats 4000000
/-! PiX: the program's own exceptions, with one field or none. -/
namespace PI
open PySem PySem.Spec PyProof.Rows L2

/-! ### what is asked of the class -/
/-- a class of exceptions right over a built-in one -/
def ownIn (K : PySem.W.Frag) (C : Addr) (bmB : List Value) (newId : String) : Bool := match K.lookup C with
  | some ⟨.type "type", _, .cls cd, sl⟩ => (match cd.mro, sl.toList with
    | .ref C' :: bm, [_, _, _, _, some (.builtin n), _] => C' == C && (n == newId && (!cd.hasDel && (cd.hasDict && decide (bm = bmB))))
    | _, _ => false)
  | _ => false
theorem ownIn_of {K : PySem.W.Frag} {C : Addr} {bmB : List Value} {newId : String} (q : ownIn K C bmB newId = true) : ∃ nm N qn bs sn sub ab col dd k0 k1 k2 k3 k5,
    K.lookup C = some (excClassObj nm qn C N bs bmB true sn sub ab col dd k0 k1 k2 k3 k5 newId) := by
  unfold ownIn at q
  split at q
  · rename_i dd cd sl ho
    split at q
    · rename_i C' bm k0 k1 k2 k3 n k5 hm hs
      simp only [Bool.and_eq_true, beq_iff_eq, Bool.not_eq_true', decide_eq_true_eq] at q
      obtain ⟨rfl, rfl, hdel, hdd, rfl⟩ := q
      obtain ⟨nm, bs, mro, ns, qn, hd, sn, sub, ab, col, del⟩ := cd
      dsimp only at hm hdel hdd
      subst hm hdel hdd
      have hsl : sl = #[k0, k1, k2, k3, some (.builtin n), k5] := by
        obtain ⟨l⟩ := sl
        simp only at hs
        rw [hs]
      subst hsl
      exact ⟨nm, ns, qn, bs, sn, sub, ab, col, dd, k0, k1, k2, k3, k5, ho⟩
    · cases q
  · cases q
abbrev lkBase : List Value := [.type "LookupError", .type "Exception", .type "BaseException", .type "object"]
section
open PySem.W PySem.Calls PySem.HandSPX Builtin Builtin.ObjectAttr
variable {prog : Program} {w : World} {A : Around} {E : Value → Shared → Prop} {R : Result → Shared → Prop} {hp : Heap} {g : Array GenState} {d : Drawn} {t : Nat} {os : OsState}
/-- the first field of a new one -/
theorem osa_first {K : PySem.W.Frag} {name : Str} {tk : Tok} {v : Value} {x C : Addr} {fv : Array Value} {cd : ClassData}
    (X : K.In hp) (hx : hp.get? x = some { cls := .ref C, data := .fields fv }) (hcd : PySem.W.clsIn K C = some cd) (ne : cd.mro.isEmpty = false) (hob : cd.mro.contains (.type "object") = true) (hps : ∀ self, refuseLoop self "__setattr__" cd.mro = pure ()) (hh : cd.hasDict = true) (ha : PySem.W.findIn K (.ref C) name = some none)
    (hq : ∀ h' tk' dx, (∀ b o, b ≠ x → hp.get? b = some o → h'.get? b = some o) → hp.objs.size ≤ dx → dx ≠ x → h'.get? x = some { cls := .ref C, dict := some dx, data := .fields fv } →
      h'.Ns1 dx (fun y => if y = name then some v else none) → R (.ok (.ret .none)) ⟨h', g, d, tk', os⟩) :
    codeAny (model prog w) A (.call (.builtin "object.__setattr__") ⟨[.ref x, .str name tk, v], []⟩) R ⟨hp, g, d, t, os⟩ := by
  have J : PySem.W.InstAt hp x { cls := .ref C, data := .fields fv } C none := ⟨hx, rfl, rfl, trivial⟩
  have SF := F.store_object
  have apart : x ≠ hp.objs.size := Nat.ne_of_lt (Heap.lt_size hx)
  have sub : PySem.W.Looks (model prog w) hp (isInstance (.ref x) (.type "object")) true := J.type.andThen (PySem.W.looks_mroIn X (by unfold PySem.W.mroIn; rw [hcd, Option.bind_some, if_neg (by rw [ne]; decide), hob]))
  refine codeAny_call_builtin SF.slot.plain SF.entry (@PySem.W.check_slot (model prog w) _ _ ⟨hp, g, d, t, os⟩ "object.__setattr__" "object" "__setattr__" (.ref x) [.str name tk, v] [] _ SF.kind SF.split sub (SF.args (.ref x) (.str name tk) v) ?_)
  have order : PySem.W.Looks (model prog w) hp (mroOf (.ref C)) cd.mro := (PySem.W.looks_clsIn X hcd).andThen .now
  have taker : PySem.W.Looks (model prog w) hp (storeTaker? none) none := .now
  have told : PySem.W.Looks (model prog w) hp (classData C) cd := PySem.W.looks_clsIn X hcd
  rw [PySem.W.osa_eq, refuse_eq]
  refine wpAny_bind (wpAny_bind (J.type.at (wpAny_bind (order.at ?_))))
  rw [hps]
  refine wpAny_pure (wpAny_bind (J.type.at (wpAny_bind ((PySem.W.looks_findIn X ha).at (wpAny_bind (taker.at ?_))))))
  show wpAny _ _ (storeInOwnDict (.ref x) (.ref C) (.str name tk) name v false) _ _ _
  obtain ⟨nm, bs, mro, ns, qn, hd, sn, sb, ab, col, del⟩ := cd
  dsimp only at hh
  subst hh
  unfold storeInOwnDict ownDictForStores
  repeat (first | with_reducible refine store_in_new ?_ ?_ | with_reducible refine wpAny_loadPart_at hx ?_ | with_reducible refine told.at ?_ | wp_step)
  · exact ⟨_, #[], _, (Heap.get?_update_ne _ _ _ _ apart.symm).trans (Heap.get?_push_at rfl rfl), rfl, fun e he => absurd he (by simp), fun _ => rfl⟩
  · intro h' tk' hn' hs
    have hx₁ : (hp.push { cls := .type "dict", data := .dict #[] }).get? x = some { cls := .ref C, data := .fields fv } := Heap.get?_push_of_some _ hx
    refine hq h' tk' hp.objs.size (fun b o hb ho => ?_) (Nat.le_refl _) apart.symm ?_ hn'
    · exact (hs.2 b (Nat.ne_of_lt (Heap.lt_size ho))).trans ((Heap.get?_update_ne _ _ _ _ hb).trans (Heap.get?_push_of_some _ ho))
    · exact (hs.2 x apart).trans (Heap.get?_update_self _ hx₁ rfl)
end
end PI

end

section
set_option maxRecDepth 100000
set_option maxHeartbeats 4000000
/-! PiX2: an exception with one field is made. -/
namespace PI
open PySem PySem.Spec PyProof.Rows L2
/-- def __init__(self, f): self.f = f -/
def ixA (f : Str) (p1 p2 : Pos) : Arguments := { posonlyargs := [], args := [{ arg := "self", annotation := none, pos := p1 }, { arg := f, annotation := none, pos := p2 }], vararg := none, kwonlyargs := [], kw_defaults := [], kwarg := none, defaults := [] }
def ixB (f : Str) (q1 q2 q3 q4 : Pos) : List Stmt := [.Assign [.Attribute (.Name "self" q1) f q2] (.Name f q3) q4]
def ixS (f : Str) : Scope := { kind := .function, names := [(PySem.Str.ofString "self", .local), (f, .local)], isGenerator := false, isCoroutine := false, more := [] }
/-- what the written part says of a class with one field -/
structure OwnX (K : PySem.W.Frag) (mg : Str → Option Value) (x f : Str) (C fI : Addr) (bmB : List Value) (newId : String) : Prop where
  gC : mg x = some (.ref C)
  own : ownIn K C bmB newId = true
  sa : PySem.W.findIn K (.ref C) "__setattr__" = some (some (.builtin "object.__setattr__"))
  noN : PySem.W.findIn K (.ref C) f = some none
  iC : PySem.W.findIn K (.ref C) "__init__" = some (some (.ref fI))
  tC : PySem.W.typeIn K (.ref fI) = some (.type "function")
  kC : PySem.W.keepIn K (.ref C) = true
  exC : PySem.W.subIn K (.ref C) (.type "BaseException") = some true
  tyC : PySem.W.typeIn K (.ref C) = some (.type "type")
  fn : ∃ (oc : Value) (od : Option Addr) (kV doc pm : Value) (an : Option Addr) (cdv ct : Value) (osl : Array (Option Value)) (qual : Str) (p1 p2 q1 q2 q3 q4 : Pos),
    K.lookup fI = some ⟨oc, od, .func (PySem.W.fnOf "__init__" qual (ixA f p1 p2) (ixB f q1 q2 q3 q4) (ixS f) .none kV doc pm an cdv ct), osl⟩ ∧ PySem.W.codeIn K cdv qual = true
  fk : f = "place" ∨ f = "line"
structure MadeX (h h' : Heap) (e C d : Addr) (f : Str) (v : Value) : Prop where
  keep : ∀ b o, h.get? b = some o → h'.get? b = some o
  new : h.objs.size ≤ e
  obj : ∃ oe vs, h'.get? e = some oe ∧ oe.cls = .ref C ∧ oe.dict = some d ∧ oe.data = .fields vs ∧ vs[1]? = some .none
  dbig : h.objs.size ≤ d
  dne : d ≠ e
  ns : h'.Ns1 d (fun y => if y = f then some v else none)
section
open PySem.W PySem.Calls PySem.HandSPX
variable {prog : Program} {w : World} {A : Around} {E : Value → Shared → Prop} {R : Result → Shared → Prop} {s : Shared} {K : PySem.W.Frag} {mg : Str → Option Value} {x f : Str} {C fI : Addr} {bmB : List Value} {newId : String}
theorem ldX {M : Model} {s : Shared} {name : Str} {scope : Scope} {L a : Addr} {cd : Value} {m : Str → Option Value} {x : Str} {pos : Pos} {v : Value} {Q : Value → Shared → Prop} {A : Around} {E : Value → Shared → Prop} (hn : s.heap.Ns L m) (hv : m x = some v) (h : Q v s)
    (hk : scope.kind = .function) (hl : (envOfC name scope L a cd).kindOf x = some .local) (hd : (x == ("__debug__" : Str)) = false) :
    wpAny M A (eval (.Name x pos) (envOfC name scope L a cd)) Q E s := wpAny_Name (wpAny_loadName_local hk hl hn hv h) hd
theorem initX (T : OwnX K mg x f C fI bmB newId) (hob : bmB.contains (.type "object") = true) (hps : ∀ self, refuseLoop self "__setattr__" bmB = pure ()) {e t0 : Addr} {v : Value} (X : K.In s.heap) (hlim : s.heap.NoLimit) (hx : s.heap.get? e = some (excO C t0)) (hroom : A.depth < recursionLimit)
    (hq : ∀ h' tk dx, (∀ b o, b ≠ e → s.heap.get? b = some o → h'.get? b = some o) → s.heap.objs.size ≤ dx → dx ≠ e → h'.get? e = some { cls := .ref C, dict := some dx, data := .fields #[.ref t0, .none, .none, .none, .bool false, .none] } →
      h'.Ns1 dx (fun y => if y = f then some v else none) → R (.ok (.ret .none)) { s with heap := h', toks := tk }) :
    codeAny (model prog w) A (.call (.ref fI) ⟨[.ref e, v], []⟩) R s := by
  obtain ⟨oc, od, kV, doc, pm, an, cdv, ct, osl, qual, p1, p2, q1, q2, q3, q4, ho, hcd⟩ := T.fn
  obtain ⟨nm, N, qn, bs, sn, sub, ab, col, dd, k0, k1, k2, k3, k5, hC⟩ := ownIn_of T.own
  have hcl : PySem.W.clsIn K C = some { name := nm, bases := bs, mro := .ref C :: bmB, ns := N, qualname := qn, hasDict := true, slotNames := sn, subclasses := sub, abstract := ab, collection := col, hasDel := false } := by unfold PySem.W.clsIn; rw [hC] <;> rfl
  have two : f = "place" ∨ f = "line" := T.fk
  have noN := T.noN
  have sa := T.sa
  clear T
  refine Att.call_fn (binds := [("self", .ref e), (f, v)]) X hlim ho hcd hroom ?bind ?kind (fun s₁ IC => ?_) rfl rfl rfl
  case bind => rcases two with rfl | rfl <;> exact BindsTo.of_eq (by first | rfl | with_unfolding_all rfl)
  case kind => rcases two with rfl | rfl <;> first | rfl | decide | with_unfolding_all rfl
  obtain ⟨h₁, tk₁, rfl⟩ := IC.toInCall.same
  have k : ∀ b o, s.heap.get? b = some o → h₁.get? b = some o := IC.toInCall.keep
  have hn := IC.toInCall.ns
  have hxL : s.heap.objs.size ≠ e := Nat.ne_of_gt (Heap.lt_size hx)
  have X₁ : K.In h₁ := X.keeps k
  have hx₁ := k _ _ hx
  show wpAny _ _ (PySem.execs _ _) _ _ _
  refine wpAny_execs_cons (plainObj_wpAny_Assign_Attribute ?_)
  refine ldX (v := v) hn (by rcases two with rfl | rfl <;> first | rfl | with_unfolding_all rfl | kernel_rfl) (ldX (v := .ref e) hn (by rcases two with rfl | rfl <;> first | rfl | with_unfolding_all rfl | kernel_rfl) ?_ rfl (by rcases two with rfl | rfl <;> rfl) (by decide)) rfl (by rcases two with rfl | rfl <;> rfl) (by rcases two with rfl | rfl <;> decide)
  refine set_plain X₁ (ox := excO C t0) (od := none) ⟨hx₁, rfl, rfl, trivial⟩ sa ?_
  refine osa_first X₁ hx₁ hcl rfl ?_ ?_ rfl noN (fun h₃ tk₃ dx k₃ dn dne hx₃ hn₃ => ?_)
  · show (Value.ref C :: bmB).contains (.type "object") = true
    rw [List.contains_cons, hob]; rfl
  · intro self
    rw [refuseLoop_ref]; exact hps self
  show wpAny _ _ (PySem.execs _ _) _ _ _
  have z : s.heap.objs.size < h₁.objs.size := hn.lt
  exact wpAny_execs_nil (hq h₃ tk₃ dx (fun b o hb e => k₃ b o hb (k b o e)) (Nat.le_of_lt (Nat.lt_of_lt_of_le z dn)) dne hx₃ hn₃)
theorem madeX {B initId : String} (T : OwnX K mg x f C fI bmB newId) (FB : ExcBaseFacts B newId initId bmB) (hob : bmB.contains (.type "object") = true) (hps : ∀ self, refuseLoop self "__setattr__" bmB = pure ()) {v : Value} (X : K.In s.heap) (hlim : s.heap.NoLimit) (hroom : A.depth + 1 < recursionLimit)
    (hq : ∀ h' tk e d, MadeX s.heap h' e C d f v → R (.ok (.ret (.ref e))) { s with heap := h', toks := tk }) :
    codeAny (model prog w) A (.call (.ref C) ⟨[v], []⟩) R s := by
  obtain ⟨nm, N, qn, bs, sn, sub, ab, col, dd, k0, k1, k2, k3, k5, hC⟩ := ownIn_of T.own
  obtain ⟨hp, g, dr, tk, os⟩ := s
  have up : ∀ b o, hp.get? b = some o → ((hp.push (kdv_tup [v])).push (excO C hp.objs.size)).get? b = some o := fun b o e => Heap.get?_push_of_some _ (Heap.get?_push_of_some _ e)
  have here : ((hp.push (kdv_tup [v])).push (excO C hp.objs.size)).get? (hp.objs.size + 1) = some (excO C hp.objs.size) := by heap_get
  have fits : [v].length ≤ sizeLine := by
    rw [sizeLine_eq]
    exact (by decide : 1 ≤ 16777216)
  refine call_own FB (fun _ => rfl) (X _ _ hC) (PySem.W.looks_findIn X T.iC) (fun self => bind_fn X self T.tC) fits ?_
  refine initX (s := ⟨(hp.push (kdv_tup [v])).push (excO C hp.objs.size), g, dr, tk, os⟩) T hob hps (X.keeps up) (hlim.keeps up) here ?_ fun h' tk' dx k' dn dne hx hns => ?_
  · show A.depth + 1 < recursionLimit
    exact hroom
  · have old : ∀ b o, hp.get? b = some o → h'.get? b = some o := fun b o e => k' b o (Nat.ne_of_lt (Nat.lt_succ_of_lt (Heap.lt_size e))) (up b o e)
    have z : hp.objs.size + 1 + 1 ≤ dx := by
      first
        | (simpa only [Heap.size_push] using dn)
        | exact dn
    exact ⟨rfl, hq h' tk' (hp.objs.size + 1) dx ⟨old, Nat.le_succ _, ⟨_, _, hx, rfl, rfl, rfl, rfl⟩, Nat.le_trans (Nat.le_trans (Nat.le_succ _) (Nat.le_succ _)) z, dne, hns⟩⟩
end
theorem relO_one {f : Str} {v : V} {v' : Value} (r : RelV v v') (y : Str) : RelO (List.lookup y [(f, v)]) (if y = f then some v' else none) := by
  by_cases hw : y = f
  · subst hw
    rw [if_pos rfl, show List.lookup y [(y, v)] = some v by simp [List.lookup]]
    exact r
  · have qw : (y == f) = false := by simpa using hw
    rw [if_neg hw, show List.lookup y [(f, v)] = none by simp [List.lookup, qw]]
    trivial
section
variable {X : Cx} {x f : Str} {C fI : Addr} {bmB : List Value} {B newId initId : String}
/-- X(e) -/
def tMkX (C : Addr) (f : Str) (ta : TA) : L2.St → Hp → XK → Prop := fun σ H Q => ta σ H fun vs H1 => ∃ v, vs = [v] ∧ ∀ d, H1 d = none → Q (.ref C) (some d) (upd H1 d (.xd [(f, v)]))
theorem pmkX {a : Expr} {ta : TA} {p pos : Pos} {k : Nat} (T : OwnX X.K X.mg x f C fI bmB newId) (FB : ExcBaseFacts B newId initId bmB) (hob : bmB.contains (.type "object") = true) (hps : ∀ self, refuseLoop self "__setattr__" bmB = pure ()) (hr : Room k X.A) (ha : PA X [a] ta) (hg : Gl X x) (hdb : (x == ("__debug__" : Str)) = false := by decide)
    (he : starEach (a :: []) X.env = (false, eval a X.env) :: starEach [] X.env := by rfl) (hpl : (backTo pos (starEach [] X.env)).any (·.1) = false := by rfl) :
    PMk X (.Call (.Name x p) [a] [] pos) (tMkX C f ta) := by
  intro pins s σ H Q I h
  refine wpAny_Call_Name_kw (ld_glob I hg T.gC ?_ hdb)
  refine PySem.W.callWith_K (h₀ := X.base) I.ok.mod.kin T.kC (thn (ha.run pos pins s σ H _ I h) fun us s1 hh => ?_) he hpl
  obtain ⟨vs, H1, I1, r1, v, ev, q1⟩ := hh
  subst ev
  refine ⟨I1.kIn, ?_⟩
  cases r1 with
  | cons rv rn =>
    rename_i v' us'
    cases rn
    show wpAny _ _ (call (.ref C) [v']) _ _ _
    have hlim := I1.nolimit
    obtain ⟨hp, g, dr, tk, os⟩ := s1
    refine wpAny_call (madeX T FB hob hps I1.kIn hlim (by have := hr.dp; omega) fun h' tk' e d M => ?_)
    show MkP X pins σ Q (.ref e) ⟨h', g, dr, tk', os⟩
    obtain ⟨oe, fv, hoe, hc, hd, hdat, h1⟩ := M.obj
    have hns := M.ns
    obtain ⟨G', g1, g2⟩ := restrict h' fun b => decide (b ≠ e)
    have gk : ∀ b, b ≠ e → G'.get? b = h'.get? b := fun b hb => g1 b (decide_eq_true hb)
    have ge : G'.get? e = none := g2 e (by simp)
    have old : ∀ b o, hp.get? b = some o → G'.get? b = some o := fun b o q => (gk b (Nat.ne_of_lt (Nat.lt_of_lt_of_le (Heap.lt_size q) M.new))).trans (M.keep b o q)
    have ob : ObjOk X.prog X.w (upd H1 d (.xd [(f, v)])) G' d (.xd [(f, v)]) :=
      ⟨_, hns.at (fun o q => (gk d M.dne).trans q), fun y => relO_one rv y⟩
    have J : L2.Inv X pins σ (upd H1 d (.xd [(f, v)])) ⟨G', g, dr, tk', os⟩ := I1.laid (t' := tk') old M.dbig ob
    refine ⟨e, oe, fv, ⟨G', g, dr, tk', os⟩, _, .ref C, some d, rfl, J, fun b o q => ?_, ge, hoe, ⟨hc, hd⟩, hdat, h1, ?_, rfl, I1.bare, raises_own T.exC T.tyC, q1 d (I1.hok.fresh M.dbig)⟩
    · by_cases hb : b = e
      · have q' : G'.get? b = some o := q
        rw [hb, ge] at q'; cases q'
      · exact (gk b hb).symm.trans q
    · rw [upd_ne (Ne.symm M.dne)]
      exact I1.hok.fresh M.new
/-- X() for a class without an own __init__ -/
theorem pmk0 {p pos : Pos} (FB : ExcBaseFacts B newId initId bmB) (q : PySem.W.excIn X.K C bmB newId = true) (gC : X.mg x = some (.ref C)) (kC : PySem.W.keepIn X.K (.ref C) = true) (r : Raises X (.ref C)) (hg : Gl X x)
    (hdb : (x == ("__debug__" : Str)) = false := by decide) : PMk X (.Call (.Name x p) [] [] pos) (fun _ H Q => Q (.ref C) none H) := by
  intro pins s σ H Q I h
  refine wpAny_Call_Name_kw (ld_glob I hg gC ?_ hdb)
  obtain ⟨hp, g, dr, tk, os⟩ := s
  refine PySem.W.callWith_K0 I.kIn kC ?_
  obtain ⟨bm, N, nm, qn, bs, hdct, sn, sub, ab, col, dd, k0, k1, k2, k3, k5, mN, hC, hN, hni, T⟩ := exc_obj I.kIn q
  show wpAny _ _ (call (.ref C) []) _ _ _
  exact wpAny_call_exc_subT FB T hC hN hni (fun h' e hm => mk_of I hm r h (I.hok.gone hm.new)) (by show 0 ≤ sizeLine; rw [sizeLine_eq]; omega)
end
end PI

end

section
set_option maxRecDepth 100000
set_option maxHeartbeats 4000000
/-! PiY: raise, try with clauses (named or not), three targets. -/
namespace PI
open PySem PySem.Spec PyProof.Rows L2
section
variable {X : Cx} {XC : Str → Value → Prop} {C : Calls} {W : WX} {pw : List Nat} {a b c : Expr} {A B B3 : E} {pos pos2 : Pos}
/-! ### raise -/
theorem ss_rse0 {x : Str} {Cl : Addr} {bmB : List Value} {BB newId initId : String} {p : Pos} (hc : X.calm = true) (tk : Takes X W) (FB : ExcBaseFacts BB newId initId bmB) (q : PySem.W.excIn X.K Cl bmB newId = true) (gC : X.mg x = some (.ref Cl)) (kC : PySem.W.keepIn X.K (.ref Cl) = true) (r : Raises X (.ref Cl)) (hg : Gl X x) (hx : XC x (.ref Cl))
    (hdb : (x == ("__debug__" : Str)) = false := by decide) : PS X (.Raise (some (.Call (.Name x p) [] [] pos)) none pos2) (tS X.K XC C W pw (.rse x [])) := (ps_raise hc tk (pmk0 FB q gC kC r hg hdb)).imp' fun D σ H h => by
  obtain ⟨F, env, S, h⟩ := h
  rw [exec, evs] at h
  exact h F H σ (.ref Cl) none S Ext.refl SamePw.refl ⟨hx, .inl ⟨rfl, rfl⟩⟩
theorem ss_rse1 {x : Str} {Cl fI : Addr} {bmB : List Value} {BB newId initId : String} {p : Pos} {k : Nat} (hc : X.calm = true) (tk : Takes X W) (T : OwnX X.K X.mg x (fieldOf x) Cl fI bmB newId) (FB : ExcBaseFacts BB newId initId bmB) (hob : bmB.contains (.type "object") = true) (hps : ∀ self, refuseLoop self "__setattr__" bmB = pure ())
    (hr : Room k X.A) (ha : PA X [a] (tFs X.K XC C W [A])) (hg : Gl X x) (hx : XC x (.ref Cl)) (hdb : (x == ("__debug__" : Str)) = false := by decide)
    (he : starEach (a :: []) X.env = (false, eval a X.env) :: starEach [] X.env := by rfl) (hpl : (backTo pos (starEach [] X.env)).any (·.1) = false := by rfl) :
    PS X (.Raise (some (.Call (.Name x p) [a] [] pos)) none pos2) (tS X.K XC C W pw (.rse x [A])) := (ps_raise hc tk (pmkX T FB hob hps hr ha hg hdb he hpl)).imp' fun D σ H h => by
  obtain ⟨F, env, S, h⟩ := h
  rw [exec] at h
  change tM X.K XC W (evs C [A]) (fun ds => ds.map .fz) (fun ds _ vs => vs.length = ds.length) σ H (fun _ vs H1 => _)
  refine tM_sr S h fun F1 env1 ds vs H1 em P o g => ?_
  have R := P.st.frozen P.len o
  have hl : ds.length = 1 := by
    simp only [evs] at em
    obtain ⟨d, e1, _, em⟩ := Res.bind_ok em
    simp only [Res.bind] at em
    cases em; rfl
  obtain ⟨d0, rfl⟩ : ∃ d, ds = [d] := by
    match ds, hl with
    | [d], _ => exact ⟨d, rfl⟩
  obtain ⟨v, rfl, rv⟩ := rep1 R
  refine ⟨v, rfl, fun d hd => ?_⟩
  have up : FLe H1 (upd H1 d (.xd [(fieldOf x, v)])) := fun u o q => by rw [upd_ne (ne_of_none q hd)]; exact q
  have n : New X.K F1 H1 F1 (upd H1 d (.xd [(fieldOf x, v)])) (.fz d0) v := ⟨FLe.refl, P.base.le.trans up, up, fun _ _ h h' => (by rw [h] at h'; cases h'), rv, fun _ z => nomatch z⟩
  have PN := Post.new P.base n
  exact g F1 _ σ (.ref Cl) (some d) PN.base (P.bext.trans PN.bext) SamePw.refl ⟨hx, .inr ⟨d0, d, v, rfl, rfl, upd_same, rv⟩⟩
/-! ### a, b, c = x, y, z -/
theorem ss_par3 {i j l : Nat} {x y z : Str} {px py pz pt : Pos} {kt k2 : Nat} {pt2 : Pos} (h : ∀ ta, PA X [a, b, c] ta → PS X (.Assign [.Tuple [.Name x px, .Name y py, .Name z pz] kt pt] (.Tuple [a, b, c] k2 pt2) pos) (tPar3 i j l ta)) (ha : PE X a (tE X.K XC C W A)) (hb : PE X b (tE X.K XC C W B)) (hc : PE X c (tE X.K XC C W B3))
    (hs : starEach [a, b, c] X.env = (false, eval a X.env) :: starEach [b, c] X.env := by rfl) (hs2 : starEach [b, c] X.env = (false, eval b X.env) :: starEach [c] X.env := by rfl) (hs3 : starEach [c] X.env = (false, eval c X.env) :: starEach [] X.env := by rfl) :
    PS X (.Assign [.Tuple [.Name x px, .Name y py, .Name z pz] kt pt] (.Tuple [a, b, c] k2 pt2) pos) (tS X.K XC C W pw (.par3 i j l A B B3)) :=
  (h _ (pa_cons ha (pa_cons hb (pa_cons hc pa_nil hs3) hs2) hs)).imp' fun D σ H h => by
    obtain ⟨F, env, S, h⟩ := h
    rw [exec] at h
    refine tM_sr S h fun F1 env1 r vs H1 em P o g v ev_ => ?_
    obtain ⟨hr, v', rfl⟩ := o
    cases ev_
    refine ⟨F1, env1, P.base, ?_⟩
    cases e2 : ev C B env1 with
    | no => rw [e2] at g; exact g
    | ex c ps env2 =>
      rw [e2] at g
      exact fun F' H' cls dx S' x z => g F' H' σ cls dx S' (P.bext.trans x) SamePw.refl z
    | ok u env2 =>
    rw [e2] at g
    intro F2 H2 ws P2 o2 w ew
    obtain ⟨hu, w', rfl⟩ := o2
    cases ew
    refine ⟨F2, env2, P2.base, ?_⟩
    cases e3 : ev C B3 env2 with
    | no => simp only [Res.sr, e3] at g; exact g
    | ex c ps env3 =>
      simp only [Res.sr, e3] at g
      exact fun F' H' cls dx S' x z => g F' H' σ cls dx S' ((P.bext.trans P2.bext).trans x) SamePw.refl z
    | ok u3 env3 =>
    simp only [Res.sr, e3] at g
    intro F3 H3 ws3 P3 o3 w3 ew3
    obtain ⟨hu3, w3', rfl⟩ := o3
    cases ew3
    refine ⟨v, w, w3, rfl, ?_⟩
    split at g
    · exact g.elim
    · rename_i hp
      simp only [not_or] at hp
      have PP := P.seq (P2.seq P3)
      obtain ⟨S3, X3⟩ := PP.st.rel (env' := ((env3.set i r).set j u).set l u3) (σ' := ((σ.set i (some v)).set j (some w)).set l (some w3)) (fun k m => (k < env3.length ∧ k ≠ i ∧ k ≠ j ∧ k ≠ l ∧ m = k) ∨ (k = i ∧ i ≠ j ∧ i ≠ l ∧ m = env3.length) ∨ (k = j ∧ j ≠ l ∧ m = env3.length + 1) ∨ (k = l ∧ m = env3.length + 2)) (by simp [P3.len]) (by
        rintro k m n (⟨z1, z2, z3, z4, z5⟩ | ⟨z1, z2, z3, z4⟩ | ⟨z1, z2, z3⟩ | ⟨z1, z2⟩) (⟨y1, y2, y3, y4, y5⟩ | ⟨y1, y2, y3, y4⟩ | ⟨y1, y2, y3⟩ | ⟨y1, y2⟩) <;> omega) (fun k q er hq => by
        rcases getElem?_set_cases er with ⟨rfl, rfl, hk⟩ | ⟨ne, er⟩
        · refine ⟨env3.length + 2, .inr (.inr (.inr ⟨rfl, rfl⟩)), by simp, fun v' e' => ?_⟩
          rw [P3.len] at e'; simp at e'; subst e'
          rw [List.getElem?_set_self (by simpa [P3.len] using hk)]
        · rcases getElem?_set_cases er with ⟨rfl, rfl, hk⟩ | ⟨ne2, er⟩
          · refine ⟨env3.length + 1, .inr (.inr (.inl ⟨rfl, ne, rfl⟩)), by simp, fun v' e' => ?_⟩
            rw [P3.len] at e'; simp at e'; subst e'
            rw [List.getElem?_set_ne (Ne.symm ne), List.getElem?_set_self (by simpa [P3.len] using hk)]
          · rcases getElem?_set_cases er with ⟨rfl, rfl, hk⟩ | ⟨ne3, er⟩
            · refine ⟨env3.length, .inr (.inl ⟨rfl, ne2, ne, rfl⟩), by simp, fun v' e' => ?_⟩
              rw [P3.len] at e'; simp at e'; subst e'
              rw [List.getElem?_set_ne (Ne.symm ne), List.getElem?_set_ne (Ne.symm ne2), List.getElem?_set_self (by simpa [P3.len] using hk)]
            · have hk := (List.getElem?_eq_some_iff.mp er).1
              refine ⟨k, .inl ⟨hk, ne3, ne2, ne, rfl⟩, by rw [List.getElem?_append_left hk]; exact er, fun v' e' => ?_⟩
              rw [List.getElem?_append_left (by rw [← P3.len]; exact hk)] at e'
              rw [List.getElem?_set_ne (Ne.symm ne), List.getElem?_set_ne (Ne.symm ne2), List.getElem?_set_ne (Ne.symm ne3)]; exact e')
      exact g F3 H3 _ S3 (PP.ext.trans X3) (((set_pw hp.1).trans (set_pw hp.2.1)).trans (set_pw hp.2.2))
end
end PI

end

section
set_option maxRecDepth 100000
set_option maxHeartbeats 4000000
/-! PiZ: try with clauses, named or not. -/
namespace PI
open PySem PySem.Spec PyProof.Rows L2
abbrev Cl3 := Value × Option Nat × (Addr → Value → Option Addr → TS)
/-- what a clause's suite finds and leaves -/
def inSuite (o : Option Nat) (t : TS) (a : Addr) (D : Ends) (σ : L2.St) (H : Hp) : Prop := match o with
  | some i => i < σ.length → t { nx := fun σ' H' => D.nx (σ'.set i none) H', rt := D.rt, bk := fun σ' H' => D.bk (σ'.set i none) H', ct := fun σ' H' => D.ct (σ'.set i none) H' } (σ.set i (some (.ref a))) H
  | none => t D σ H
def wCl (K : PySem.W.Frag) (Wout : WX) (D : Ends) : List Cl3 → WX
  | [] => Wout
  | (c, o, ts) :: r => fun cls d σ H => ∃ b, PySem.W.exmOne K cls c = some b ∧ (b = true → ∀ a, H a = none → inSuite o (ts a cls d) a D σ H) ∧ (b = false → wCl K Wout D r cls d σ H)
inductive ClsOk (X : Cx) : List ExceptHandler → List Cl3 → Prop
  | nil : ClsOk X [] []
  | plain {x : Str} {c : Value} {ts : Addr → Value → Option Addr → TS} {b₀ : Stmt} {suite : List Stmt} {np pos' : Pos} {hds : List ExceptHandler} {l : List Cl3} (hc : Names X x c)
      (hsu : ∀ (a : Addr) (oe : Obj) (cls : Value) (d : Option Addr) (pn : List (Addr × Obj)), Zc cls d oe → (∃ vs, oe.data = .fields vs) → PSs (X.suite a ((a, oe) :: pn)) (b₀ :: suite) (ts a cls d)) (r : ClsOk X hds l) :
      ClsOk X (.ExceptHandler (some (.Name x np)) none (b₀ :: suite) pos' :: hds) ((c, none, ts) :: l)
  | named {x n : Str} {i : Nat} {c : Value} {ts : Addr → Value → Option Addr → TS} {b₀ : Stmt} {suite : List Stmt} {np pos' : Pos} {hds : List ExceptHandler} {l : List Cl3} (hi : X.N[i]? = some n) (hln : X.env.kindOf n = some .local) (hc : Names X x c)
      (hsu : ∀ (a : Addr) (oe : Obj) (cls : Value) (d : Option Addr) (pn : List (Addr × Obj)), Zc cls d oe → (∃ vs, oe.data = .fields vs) → PSs (X.suite a ((a, oe) :: pn)) (b₀ :: suite) (ts a cls d)) (r : ClsOk X hds l) :
      ClsOk X (.ExceptHandler (some (.Name x np)) (some n) (b₀ :: suite) pos' :: hds) ((c, some i, ts) :: l)
section
variable {X : Cx} {body : List Stmt} {h₀ : ExceptHandler} {hds : List ExceptHandler} {l : List Cl3} {pos : Pos} {tb : WX → TS} {Wout : WX}
theorem ps_tryC (hs : X.stack = X.env :: X.outer) (hf : X.env.frame = some X.env.locals) (hN : X.N.Nodup) (tk : Takes X Wout)
    (hb : ∀ (W : WX) (pn : List (Addr × Obj)) (xe : Value → Shared → Prop), Takes (X.tr pn xe) W → PassesOwn (model X.prog X.w) X.A X.env xe → PSs (X.tr pn xe) body (tb W))
    (hh : ClsOk X (h₀ :: hds) l) : PS X (.Try body (h₀ :: hds) [] [] pos) (fun D σ H => tb (wCl X.K Wout D l) D σ H) := by
  constructor
  intro pins z σ H D I h
  have ok := I.ok
  have hfr : X.A.frames = some (X.env :: X.outer) := by rw [ok.frames, hs]
  refine wpAny_Try_except ?_
  have run1 := (hb (wCl X.K Wout D l) (X.pn ++ pins) (fun e s₁ => wpAny (model X.prog X.w) X.A (noteFrame e X.env) (fun _ s₂ => wpAny (model X.prog X.w) X.A (setFlight e none) (fun _ s₃ =>
    wpAny (model X.prog X.w) X.A (handleBy e X.env (h₀ :: hds)) (SP X pins D) X.xe s₃) X.xe s₂) X.xe s₁) ?caught PassesOwn.looking).run [] z σ H D (I.toTry _) h
  case caught =>
    rintro u z1 ⟨a, B, zI, pins1, σ1, H1, cls, d, rfl, J0, nb, up, sky, na, os, ag, w⟩
    have J : L2.Inv X pins σ1 H1 zI := J0.ofTry ok
    have sky1 : Sky B (X.env :: X.outer) a (Zc cls d) X.env.locals z1.heap := by rw [← hs]; exact sky
    show wpAny (model X.prog X.w) X.A (noteFrame (.ref a) X.env) _ _ _
    refine Sky.land Zc.steady hfr hf sky1 fun g3 fl3 up3 => ?_
    have J3 : L2.Inv X pins σ1 H1 { z1 with heap := g3 } := J.landed nb fl3.1 (up.trans up3) os ag
    obtain ⟨o3, vs3, there3, hz3, hd3⟩ := fl3.there
    have apart : ∀ {g : Heap} {o : Obj} {vs : Array Value}, g.FunFrames B (X.env :: X.outer) → g.get? a = some o → o.data = .fields vs → a ∉ frs (X.env :: X.outer) := by
      intro g o vs ff e dd hm
      obtain ⟨_, o', e', nf⟩ := ff.mem hm
      rw [e] at e'; cases e'
      exact nf _ dd
    have nfr := apart fl3.2.2.1 there3 hd3
    have nL : a ≠ X.env.locals := fun q => nfr (List.mem_filterMap.mpr ⟨X.env, List.mem_cons_self, by rw [hf, q]⟩)
    have nF : a ∉ X.fs := fun hm => by
      obtain ⟨e, he, q⟩ := List.mem_filterMap.mp hm
      exact nfr (List.mem_filterMap.mpr ⟨e, List.mem_cons_of_mem _ he, q⟩)
    have S3 := J3.suite there3 hd3 na nL nF
    have go : ∀ {rest : List ExceptHandler} {l2 : List Cl3}, ClsOk X rest l2 → wCl X.K Wout D l2 cls d σ1 H1 →
        wpAny (model X.prog X.w) X.A (handleBy (.ref a) X.env rest) (SP X pins D) X.xe { z1 with heap := g3 } := by
      intro rest l2 hk
      have LT : PySem.W.Looks (model X.prog X.w) g3 (typeOf (.ref a)) cls := fun A Q E s k q => wpAny_typeOf_ref (k _ _ there3) (by rw [hz3.1]; exact q)
      have test : ∀ {x : Str} {c : Value} {np : Pos} {Q : Value → Shared → Prop} {E : Value → Shared → Prop}, Names X x c → Q c { z1 with heap := g3 } → wpAny (model X.prog X.w) (X.A.mark (some (.ref a))) (eval (.Name x np) X.env) Q E { z1 with heap := g3 } := by
        rintro x c np Q E ⟨hg, hdbg, hm | ⟨hm, hv, hnn⟩⟩ q
        · exact ld_glob (X := X.suite a ((a, o3) :: (X.pn ++ pins))) S3 hg hm q hdbg
        · exact ld_blt (X := X.suite a ((a, o3) :: (X.pn ++ pins))) S3 hg hm hv q hnn hdbg
      induction hk with
      | nil =>
        intro w
        refine wpAny_handleBy_nil ?_
        obtain ⟨k1, k2, k3, oe, vs, T, oT, ts', he, hz, hd, h1, hr⟩ := id fl3
        unfold PySem.passOn
        refine wpAny_bind (wpAny_field he hd h1 ?_)
        rw [if_neg (show ¬ ((Value.ref T == Value.none) = true) from by simp)]
        have fin : wpAny (model X.prog X.w) X.A (setFlight (.ref a) X.env.frame) (fun _ s4 => wpAny (model X.prog X.w) X.A (throw (.ref a) : Sem Flow) (SP X pins D) X.xe s4) X.xe { z1 with heap := g3 } := by
          rw [hf]
          refine HandSPX.setFlight_upZ fl3 fun h4 hh4 up4 => wpAny_throw (tk _ _ ?_)
          exact ⟨a, B, zI, pins, σ1, H1, cls, d, rfl, J, nb, (up.trans up3).trans up4, .inr (.inr (by rw [hs]; exact hh4)), na, os, ag, w⟩
        first
          | exact wpAny_bind (wpAny_pure (wpAny_bind fin))
          | exact wpAny_bind fin
      | @plain x c ts b₀ suite np pos' hds2 l3 hc hsu r ih =>
        rintro ⟨b, hb1, hyes, hno⟩
        refine wpAny_handleBy_cons (codeAny_handlers_test ?_) (by intro q; cases q)
        have LM := PySem.W.exm_one (M := model X.prog X.w) (J3.kIn) LT hb1
        refine test hc (LM.here ?_)
        cases b with
        | true =>
          refine codeAny_handlers_suite ?_
          refine HandSPX.lands_againZ fl3 fun h4 fl4 up4 => ?_
          have J4 : L2.Inv X pins σ1 H1 { z1 with heap := h4 } := J.landed nb fl4.1 ((up.trans up3).trans up4) os ag
          obtain ⟨oe4, vs4, he4, hz4, hd4⟩ := fl4.there
          have S4 := J4.suite he4 hd4 na nL nF
          refine wpAny_mono ((hsu a oe4 cls d (X.pn ++ pins) hz4 ⟨_, hd4⟩).run [] _ _ H1 _ S4 (hyes rfl a na)) (fun fl s6 hsp => ?_) (fun _ _ q => False.elim q)
          cases fl with
          | ret u =>
            obtain ⟨v6, σ6, H6, S6, r6, q6⟩ := hsp
            exact ⟨v6, σ6, H6, S6.unsuite ok, r6, q6⟩
          | _ =>
            obtain ⟨σ6, H6, S6, q6⟩ := hsp
            exact ⟨σ6, H6, S6.unsuite ok, q6⟩
        | false =>
          show wpAny _ X.A (handleBy (.ref a) X.env hds2) _ _ _
          exact ih (hno rfl)
      | @named x n i c ts b₀ suite np pos' hds2 l3 hi hln hc hsu r ih =>
        rintro ⟨b, hb1, hyes, hno⟩
        have hloc : Loc X.env.scope n := .inl hln
        refine wpAny_handleBy_cons (codeAny_handlers_test ?_) (by intro q; cases q)
        have LM := PySem.W.exm_one (M := model X.prog X.w) (J3.kIn) LT hb1
        refine test hc (LM.here ?_)
        cases b with
        | true =>
          refine codeAny_handlers_suite_as ?_
          refine HandSPX.lands_againZ fl3 fun h4 fl4 up4 => ?_
          have J4 : L2.Inv X pins σ1 H1 { z1 with heap := h4 } := J.landed nb fl4.1 ((up.trans up3).trans up4) os ag
          obtain ⟨oe4, vs4, he4, hz4, hd4⟩ := fl4.there
          have S4 := J4.suite he4 hd4 na nL nF
          refine store_ok (X := X.suite a ((a, oe4) :: (X.pn ++ pins))) (v := .ref a) S4 hN hi hloc rfl (fun s5 S5 => ?_) (.inr hln)
          refine wpAny_mono ((hsu a oe4 cls d (X.pn ++ pins) hz4 ⟨_, hd4⟩).run [] s5 _ H1 _ S5 (hyes rfl a na (by rw [J4.len]; exact (List.getElem?_eq_some_iff.mp hi).1))) (fun fl s6 hsp => ?_) (fun _ _ q => False.elim q)
          have end_ : ∀ {σ6 : L2.St} {H6 : Hp} {Q : Shared → Prop}, L2.Inv (X.suite a ((a, oe4) :: (X.pn ++ pins))) [] σ6 H6 s6 → (∀ s7, L2.Inv X pins (σ6.set i none) H6 s7 → Q s7) →
              wpAny (model X.prog X.w) X.A (do bindName X.env n .none; unbindBehindTheSuite X.env n pos') (fun _ s7 => Q s7) X.xe s6 := fun {σ6 H6 Q} S6 hq => gone_ok (S6.unsuite ok) hN hi hln hq
          cases fl with
          | ret u =>
            obtain ⟨v6, σ6, H6, S6, r6, q6⟩ := hsp
            exact end_ S6 fun s7 J7 => ⟨_, _, _, J7, r6, q6⟩
          | _ =>
            obtain ⟨σ6, H6, S6, q6⟩ := hsp
            exact end_ S6 fun s7 J7 => ⟨_, _, J7, q6⟩
        | false =>
          show wpAny _ X.A (handleBy (.ref a) X.env hds2) _ _ _
          exact ih (hno rfl)
    exact go hh w
  refine wpAny_mono run1 (fun fl s1 hsp => ?_) (fun e s1 he => he)
  cases fl with
  | next =>
    obtain ⟨σ', H', J', q⟩ := hsp
    exact wpAny_execs_nil ⟨σ', H', J'.ofTry ok, q⟩
  | ret u =>
    obtain ⟨v, σ', H', J', r, q⟩ := hsp
    exact ⟨v, σ', H', J'.ofTry ok, r, q⟩
  | _ =>
    obtain ⟨σ', H', J', q⟩ := hsp
    exact ⟨σ', H', J'.ofTry ok, q⟩
end
end PI

end

section
set_option maxRecDepth 100000
set_option maxHeartbeats 2000000
/-! PiW: the evaluator's rule for try; suites that hand out a list, or plain data. -/
namespace PI
open PySem PySem.Spec PyProof.Rows L2
/-! ### the suite's parts -/
def tHI (a : Addr) (cls : Value) (d : Option Addr) (Cl : Addr) (f : Str) (i : Nat) : HI → TE
  | .lit (.str x) => tC (.str x)
  | .lit (.bl b) => fun σ H Q => (cls = .ref Cl ∧ d = none) ∧ σ[i]? = some (some (.ref a)) ∧ Q (.bl b) H
  | .fld => fun σ H Q => σ[i]? = some (some (.ref a)) ∧ cls = .ref Cl ∧ ∃ dd v, d = some dd ∧ H dd = some (.xd [(f, v)]) ∧ Q v H
  | _ => fun _ _ _ => False
def tHIs (a : Addr) (cls : Value) (d : Option Addr) (Cl : Addr) (f : Str) (i : Nat) : List HI → TA
  | [] => tNil
  | x :: xs => tCons (tHI a cls d Cl f i x) (tHIs a cls d Cl f i xs)
section
variable {X : Cx} {a Cl : Addr} {oe : Obj} {cls : Value} {d : Option Addr} {pn : List (Addr × Obj)} {i : Nat} {f : Str} {pos p p1 p2 : Pos}
theorem hi_str {x : Str} {k : Nat} : PE (X.suite a ((a, oe) :: pn)) (.Constant (.str x) k pos) (tHI a cls d Cl f i (.lit (.str x))) := pe_str
theorem hi_isVE {n : Str} (EC : ExcC X.K Cl) (hk : PySem.W.kitOne X.K (.ref Cl) (.type "ValueError") = some true) (hz : Zc cls d oe) (hf : ∃ vs, oe.data = .fields vs) (hg : Gl X "isinstance") (hm : X.mg "isinstance" = none) (hg2 : Gl X "ValueError") (hm2 : X.mg "ValueError" = none)
    (hv : PE (X.suite a ((a, oe) :: pn)) (.Name n p1) (tVar i))
    (hs : starEach [.Name n p1, .Name "ValueError" p2] X.env = (false, eval (.Name n p1) X.env) :: starEach [.Name "ValueError" p2] X.env := by rfl)
    (hs2 : starEach [.Name "ValueError" p2] X.env = (false, eval (.Name "ValueError" p2) X.env) :: starEach [] X.env := by rfl)
    (hpl : (backTo pos (starEach [.Name "ValueError" p2] X.env)).any (·.1) = false := by rfl) :
    PE (X.suite a ((a, oe) :: pn)) (.Call (.Name "isinstance" p) [.Name n p1, .Name "ValueError" p2] [] pos) (tHI a cls d Cl f i (.lit (.bl true))) := by
  by_cases h : cls = .ref Cl ∧ d = none
  · obtain ⟨rfl, rfl⟩ := h
    have ty : PE (X.suite a ((a, oe) :: pn)) (.Name "ValueError" p2) (tC (.ty "ValueError")) := pe_bltn (X := X.suite a ((a, oe) :: pn)) hg2 hm2 boot_ValueError rfl (by decide) (by decide)
    refine (pe_callB (X := X.suite a ((a, oe) :: pn)) (call_isE EC hz hf) hg hm (by decide +kernel) (pa_cons hv (pa_cons ty pa_nil hs2) hs) (by decide) (by decide) hs hpl).imp' fun σ H Q q => ?_
    obtain ⟨_, h1, q⟩ := q
    exact ⟨.ref a, h1, .ty "ValueError", .type "ValueError", true, rfl, fun u r => r, hk, q⟩
  · exact ⟨fun pins s σ H Q I q => absurd q.1 h⟩
theorem hi_fld {n : Str} (T : XfC X.K Cl) (hno : PySem.W.findIn X.K (.ref Cl) f = some none) (hz : Zc cls d oe) (hf : ∃ vs, oe.data = .fields vs) (hv : PE (X.suite a ((a, oe) :: pn)) (.Name n p1) (tVar i))
    (hb : attributeBase (.Name n p1) f X.env (eval (.Name n p1) X.env) = eval (.Name n p1) X.env := by rfl) :
    PE (X.suite a ((a, oe) :: pn)) (.Attribute (.Name n p1) f pos) (tHI a cls d Cl f i .fld) := (pe_xf T hno hz hf hv hb).imp' fun σ H Q q => by
  obtain ⟨h1, h2, dd, v, h3, h4, q⟩ := q
  exact ⟨.ref a, h1, rfl, h2, dd, [(f, v)], v, h3, h4, by simp [List.lookup], q⟩
theorem his_nil : PA (X.suite a ((a, oe) :: pn)) [] (tHIs a cls d Cl f i []) := pa_nil
theorem his_cons {e : Expr} {es : List Expr} {x : HI} {xs : List HI} (h : PE (X.suite a ((a, oe) :: pn)) e (tHI a cls d Cl f i x)) (t : PA (X.suite a ((a, oe) :: pn)) es (tHIs a cls d Cl f i xs))
    (hs : starEach (e :: es) X.env = (false, eval e X.env) :: starEach es X.env := by rfl) : PA (X.suite a ((a, oe) :: pn)) (e :: es) (tHIs a cls d Cl f i (x :: xs)) := pa_cons h t hs
end
theorem hiD_fld {ps : List D} {d : D} (h : hiD ps .fld = some d) : ps = [d] := by
  unfold hiD at h
  match ps, h with
  | [p], h => cases h; rfl
theorem hiD_bl {ps : List D} {d : D} {b : Bool} (h : hiD ps (.lit (.bl b)) = some d) : ps = [] ∧ d = .bl b := by
  unfold hiD at h
  match ps, h with
  | [], h => cases h; exact ⟨rfl, rfl⟩
theorem hi_vals {K : PySem.W.Frag} {F H : Hp} {σ : L2.St} {a : Addr} {cls : Value} {d : Option Addr} {Cl : Addr} {f : Str} {i : Nat} {ps : List D} (hc : cls = .ref Cl) (hs : σ[i]? = some (some (.ref a)))
    (hx : (ps = [] ∧ d = none) ∨ ∃ p dd v, ps = [p] ∧ d = some dd ∧ H dd = some (.xd [(f, v)]) ∧ Rep K F p v) : ∀ {xs : List HI} {ds : List D}, hiDs ps xs = some ds → ∃ vs, RepAll K F ds vs ∧ ∀ Q : List V → Hp → Prop, Q vs H → tHIs a cls d Cl f i xs σ H Q
  | [], ds, h => by
    cases h
    exact ⟨[], rfl, fun Q q => q⟩
  | x :: xs, ds, h => by
    unfold hiDs at h
    cases e1 : hiD ps x with
    | none => rw [e1] at h; simp at h
    | some d1 =>
      cases e2 : hiDs ps xs with
      | none => rw [e1, e2] at h; simp at h
      | some ds2 =>
        rw [e1, e2] at h
        cases h
        obtain ⟨vs, r, g⟩ := hi_vals hc hs hx e2
        cases x with
        | fld =>
          have e3 := hiD_fld e1
          rcases hx with ⟨h1, _⟩ | ⟨p', dd, v, h1, h2, h3, h4⟩
          · rw [h1] at e3; cases e3
          · rw [h1] at e3; cases e3
            exact ⟨v :: vs, ⟨v, vs, rfl, h4, r⟩, fun Q q => ⟨hs, hc, dd, v, h2, h3, g _ q⟩⟩
        | lit l =>
          cases l with
          | str x =>
            replace e1 : some (D.str x) = some d1 := e1
            cases e1
            exact ⟨.str x :: vs, ⟨_, vs, rfl, (by unfold Rep; rfl), r⟩, fun Q q => g _ q⟩
          | bl b =>
            obtain ⟨e3, rfl⟩ := hiD_bl e1
            rcases hx with ⟨_, h2⟩ | ⟨p', dd, v, h1, _⟩
            · exact ⟨.bl b :: vs, ⟨_, vs, rfl, (by unfold Rep; rfl), r⟩, fun Q q => ⟨⟨hc, h2⟩, hs, g _ q⟩⟩
            · rw [h1] at e3; cases e3
          | _ => cases e1
/-! ### clauses -/
/-- what a clause of the evaluator says of one of the layer -/
def Sem1 (K : PySem.W.Frag) (XC : Str → Value → Prop) (W : WX) (pw : List Nat) (h : Hd) (q : Cl3) : Prop :=
  h.slot = q.2.1 ∧ (∀ x cls, XC x cls → PySem.W.exmOne K cls q.1 = some (decide (h.cls = x))) ∧
  ∀ (D : Ends) (F : Hp) (env : En) (σ0 : L2.St) (H0 F' : Hp) (e : En) (σ : L2.St) (H : Hp) (cls : Value) (d : Option Addr) (ps : List PI.D) (a : Addr), srP K XC W pw D F env σ0 H0 (suiteD pw h ps e) → St K F' e σ H → Ext F env σ0 H0 F' e σ H → SamePw pw σ0 σ →
    ExOk K XC F' H h.cls ps cls d → H a = none → inSuite q.2.1 (q.2.2 a cls d) a D σ H
inductive Sems (K : PySem.W.Frag) (XC : Str → Value → Prop) (W : WX) (pw : List Nat) : List Hd → List Cl3 → Prop
  | nil : Sems K XC W pw [] []
  | cons {h : Hd} {q : Cl3} {hs : List Hd} {l : List Cl3} (a : Sem1 K XC W pw h q) (r : Sems K XC W pw hs l) : Sems K XC W pw (h :: hs) (q :: l)
theorem sems_ok {K : PySem.W.Frag} {XC : Str → Value → Prop} {W : WX} {pw : List Nat} {D : Ends} {F : Hp} {env : En} {σ0 : L2.St} {H0 F' : Hp} {e : En} {σ : L2.St} {H : Hp} {cls : Value} {d : Option Addr} {c : Str} {ps : List PI.D}
    (S : St K F' e σ H) (x : Ext F env σ0 H0 F' e σ H) (sp : SamePw pw σ0 σ) (ex : ExOk K XC F' H c ps cls d) : ∀ {hs : List Hd} {l : List Cl3}, Sems K XC W pw hs l → srP K XC W pw D F env σ0 H0 (clauses pw hs c ps e) → wCl K W D l cls d σ H := by
  intro hs l hk
  induction hk with
  | nil =>
    intro g
    exact g F' H σ cls d S x sp ex
  | @cons h q hs l m r ih =>
    intro g
    obtain ⟨c1, o, ts⟩ := q
    obtain ⟨m1, m2, m3⟩ := m
    refine ⟨_, m2 c cls ex.1, fun hb a na => ?_, fun hb => ih ?_⟩
    · have hc : h.cls = c := of_decide_eq_true hb
      unfold clauses at g
      rw [if_pos hc] at g
      have g2 : srP K XC W pw D F env σ0 H0 (suiteD pw h ps e) := by
        split at g
        · split at g
          · exact g.elim
          · exact g
        · exact g
      exact m3 D F env σ0 H0 F' e σ H cls d ps a g2 S x sp (hc ▸ ex) na
    · have hc : ¬ h.cls = c := of_decide_eq_false hb
      unfold clauses at g
      rw [if_neg hc] at g
      exact g
theorem unSlot_st {K : PySem.W.Frag} {F H : Hp} {e : En} {σ : L2.St} (o : Option Nat) (S : St K F e σ H) : St K F (unSlot o e) σ H ∧ Ext F e σ H F (unSlot o e) σ H := by
  cases o with
  | none => exact ⟨S, Ext.refl⟩
  | some i => exact ⟨S.forget i, Ext.forget i⟩
section
variable {X : Cx} {XC : Str → Value → Prop} {C : Calls} {W : WX} {pw : List Nat}
/-- except X as n: return [..] -/
theorem sem_ret {h : Hd} {c : Value} {i : Nat} {xs : List HI} {Cl : Addr} (ha : h.act = .ret xs) (ho : h.slot = some i) (he : ∀ x cls, XC x cls → PySem.W.exmOne X.K cls c = some (decide (h.cls = x))) (hC : ∀ cls, XC h.cls cls → cls = .ref Cl) (hl : xs.length ≤ sizeLine) :
    Sem1 X.K XC W pw h (c, some i, fun a cls d => tRet (tLst (tHIs a cls d Cl (fieldOf h.cls) i xs))) := by
  refine ⟨ho, he, fun D F env σ0 H0 F' e σ H cls d ps a g S x sp ex na => ?_⟩
  intro hi
  unfold suiteD at g
  rw [ha] at g
  dsimp only at g
  cases q : hiDs ps xs with
  | none => rw [q] at g; exact g.elim
  | some ds =>
    rw [q] at g
    dsimp only at g
    have hs : (σ.set i (some (.ref a)))[i]? = some (some (.ref a)) := by rw [List.getElem?_set_self hi]
    have hx2 : (ps = [] ∧ d = none) ∨ ∃ p dd v, ps = [p] ∧ d = some dd ∧ H dd = some (.xd [(fieldOf h.cls, v)]) ∧ Rep X.K F' p v := ex.2
    obtain ⟨vs, R, go⟩ := hi_vals (hC cls ex.1) hs hx2 q
    refine go _ ⟨?_, fun p hp => ?_⟩
    · rw [R.length]
      have : ds.length = xs.length := by
        clear g go R hl ha
        induction xs generalizing ds with
        | nil => cases q; rfl
        | cons y ys ih =>
          unfold hiDs at q
          split at q
          · rename_i d1 ds2 e1 e2
            cases q
            simp [ih ds2 e2]
          · cases q
      omega
    · obtain ⟨S1, x1⟩ := unSlot_st h.slot S
      obtain ⟨S2, x2⟩ := S1.new (new_lst S1.le hp R)
      exact g (by simp) _ _ σ (.ref p) S2 ((x.trans x1).trans x2) S1.len sp
/-- except X: return d -/
theorem sem_retD {h : Hd} {c : Value} {o : Option Nat} {dd : PI.D} {v : V} (ha : h.act = .retD dd) (ho : h.slot = o) (hd : ∀ F, Rep X.K F dd v) (he : ∀ x cls, XC x cls → PySem.W.exmOne X.K cls c = some (decide (h.cls = x))) :
    Sem1 X.K XC W pw h (c, o, fun a cls d => tRet (tC v)) := by
  refine ⟨ho, he, fun D F env σ0 H0 F' e σ H cls d ps a g S x sp ex na => ?_⟩
  unfold suiteD at g
  rw [ha] at g
  dsimp only at g
  have fin : D.rt v H := by
    obtain ⟨S1, x1⟩ := unSlot_st h.slot S
    obtain ⟨S2, x2⟩ := S1.new (new_scal (d := dd) S1.le (hd F'))
    exact g (by simp) _ _ σ v S2 ((x.trans x1).trans x2) S1.len sp
  subst ho
  cases q : h.slot with
  | none => exact fin
  | some i => exact fun _ => fin
/-- try: .. except ..: .. -/
theorem ss_try {body : List Stmt} {h₀ : ExceptHandler} {hds : List ExceptHandler} {l : List Cl3} {hs : List Hd} {B : List S} {pos : Pos} (h1 : X.stack = X.env :: X.outer) (h2 : X.env.frame = some X.env.locals) (hN : X.N.Nodup) (tk : Takes X W)
    (hb : ∀ (W' : WX) (pn : List (Addr × Obj)) (xe : Value → Shared → Prop), Takes (X.tr pn xe) W' → PassesOwn (model X.prog X.w) X.A X.env xe → PSs (X.tr pn xe) body (tSs X.K XC C W' pw B))
    (hh : ClsOk X (h₀ :: hds) l) (hm : Sems X.K XC W pw hs l) : PS X (.Try body (h₀ :: hds) [] [] pos) (tS X.K XC C W pw (.try_ B hs)) := (ps_tryC h1 h2 hN tk hb hh).imp' fun D σ H h => by
  obtain ⟨F, env, S, h⟩ := h
  rw [exec] at h
  refine ⟨F, env, S, ?_⟩
  cases e : execs C pw B env with
  | ex c ps e1 =>
    rw [e] at h
    exact fun F' H' σ' cls dx S' x sp ex => sems_ok S' x sp ex hm h
  | nx e1 => rw [e] at h; exact h
  | bk e1 => rw [e] at h; exact h
  | ct e1 => rw [e] at h; exact h
  | rt r e1 => rw [e] at h; exact h
  | no => rw [e] at h; exact h
end
end PI

end

section
set_option maxRecDepth 100000
set_option maxHeartbeats 2000000
/-! PiV: the classes' facts as one Bool each; raise, in short. -/
namespace PI
open PySem PySem.Spec PyProof.Rows L2
/-- the facts of an error's class with no field, over ValueError -/
def ex0B (K : PySem.W.Frag) (C : Addr) : Bool :=
  PySem.W.excIn K C He.veBase "ValueError.__new__" && (PySem.W.keepIn K (.ref C) && (decide (PySem.W.subIn K (.ref C) (.type "BaseException") = some true) && (decide (PySem.W.typeIn K (.ref C) = some (.type "type")) &&
  (decide (PySem.W.findIn K (.ref C) "__getattribute__" = some (some (.builtin "BaseException.__getattribute__"))) && (decide (PySem.W.findIn K (.ref C) "__getattr__" = some none) && (PySem.W.hasDictIn K C &&
  (decide (PySem.W.findIn K (.ref C) "__class__" = some (some (.builtin "object.__class__"))) && (decide (PySem.W.specialIn K (.builtin "object.__class__") "__get__" = some (some (.builtin "getset_descriptor.__get__"))) &&
  (decide (PySem.W.takesIn K (.builtin "object.__class__") = some true) && (decide (PySem.W.mroIn K C (.type "object") = some true) && decide (PySem.W.kitOne K (.ref C) (.type "ValueError") = some true)))))))))))
structure Ex0 (K : PySem.W.Frag) (mg : Str → Option Value) (x : Str) (C : Addr) : Prop where
  gC : mg x = some (.ref C)
  q : PySem.W.excIn K C He.veBase "ValueError.__new__" = true
  kC : PySem.W.keepIn K (.ref C) = true
  exC : PySem.W.subIn K (.ref C) (.type "BaseException") = some true
  tyC : PySem.W.typeIn K (.ref C) = some (.type "type")
  EC : ExcC K C
  ve : PySem.W.kitOne K (.ref C) (.type "ValueError") = some true
theorem ex0_of {K : PySem.W.Frag} {mg : Str → Option Value} {x : Str} {C : Addr} (g : mg x = some (.ref C)) (h : ex0B K C = true) : Ex0 K mg x C := by
  unfold ex0B at h
  simp only [Bool.and_eq_true, decide_eq_true_eq] at h
  obtain ⟨h1, h2, h3, h4, h5, h6, h7, h8, h9, h10, h11, h12⟩ := h
  exact ⟨g, h1, h2, h3, h4, ⟨h5, h6, h3, h7, h8, h9, h10, h11⟩, h12⟩
/-- the facts of an error's class with one field -/
def ex1B (K : PySem.W.Frag) (C fI : Addr) (f : Str) (bmB : List Value) (newId : String) : Bool :=
  ownIn K C bmB newId && (decide (PySem.W.findIn K (.ref C) "__setattr__" = some (some (.builtin "object.__setattr__"))) && (decide (PySem.W.findIn K (.ref C) f = some none) && (decide (PySem.W.findIn K (.ref C) "__init__" = some (some (.ref fI))) &&
  (decide (PySem.W.typeIn K (.ref fI) = some (.type "function")) && (PySem.W.keepIn K (.ref C) && (decide (PySem.W.subIn K (.ref C) (.type "BaseException") = some true) && (decide (PySem.W.typeIn K (.ref C) = some (.type "type")) && xfB K C)))))))
structure Ex1 (K : PySem.W.Frag) (mg : Str → Option Value) (x f : Str) (C fI : Addr) (bmB : List Value) (newId : String) : Prop where
  own : OwnX K mg x f C fI bmB newId
  xf : XfC K C
theorem ex1_of {K : PySem.W.Frag} {mg : Str → Option Value} {x f qual : Str} {C fI : Addr} {bmB : List Value} {newId : String} {p1 p2 q1 q2 q3 q4 : Pos} {fd : FuncData} (g : mg x = some (.ref C)) (h : ex1B K C fI f bmB newId = true)
    (F : FunD K "__init__" qual (ixA f p1 p2) (ixB f q1 q2 q3 q4) (ixS f) [] [] fI fd) (hf : f = "place" ∨ f = "line") : Ex1 K mg x f C fI bmB newId := by
  unfold ex1B at h
  simp only [Bool.and_eq_true, decide_eq_true_eq] at h
  obtain ⟨h1, h2, h3, h4, h5, h6, h7, h8, h9⟩ := h
  obtain ⟨oc, od, dV, kV, doc, pm, an, cdv, ct, osl, rfl, lk, hcd, hD, _⟩ := F.ex
  have e : dV = .none := by
    rcases hD with ⟨_, e⟩ | ⟨e, _⟩
    · exact e
    · exact absurd rfl e
  subst e
  exact ⟨⟨g, h1, h2, h3, h4, h5, h6, h7, h8, ⟨oc, od, kV, doc, pm, an, cdv, ct, osl, qual, p1, p2, q1, q2, q3, q4, lk, hcd⟩, hf⟩, xfB_ok h9⟩
section
variable {X : Cx} {XC : Str → Value → Prop} {C : Calls} {W : WX} {pw : List Nat} {a : Expr} {A : E} {p pos pos2 : Pos} {x : Str} {Cl fI : Addr}
theorem rs0 (E0 : Ex0 X.K X.mg x Cl) (hx : XC x (.ref Cl)) (hc : X.calm = true) (tk : Takes X W) (hg : Gl X x) (hdb : (x == ("__debug__" : Str)) = false := by decide) :
    PS X (.Raise (some (.Call (.Name x p) [] [] pos)) none pos2) (tS X.K XC C W pw (.rse x [])) := ss_rse0 hc tk PySem.F.excBase_ValueError E0.q E0.gC E0.kC (raises_own E0.exC E0.tyC) hg hx hdb
theorem rs1 {k : Nat} (E1 : Ex1 X.K X.mg x (fieldOf x) Cl fI lkBase "LookupError.__new__") (hx : XC x (.ref Cl)) (hc : X.calm = true) (tk : Takes X W) (hr : Room k X.A) (hg : Gl X x) (ha : PA X [a] (tFs X.K XC C W [A])) (hdb : (x == ("__debug__" : Str)) = false := by decide)
    (he : starEach (a :: []) X.env = (false, eval a X.env) :: starEach [] X.env := by rfl) (hpl : (backTo pos (starEach [] X.env)).any (·.1) = false := by rfl) :
    PS X (.Raise (some (.Call (.Name x p) [a] [] pos)) none pos2) (tS X.K XC C W pw (.rse x [A])) :=
  ss_rse1 hc tk E1.own PySem.F.excBase_LookupError (by decide +kernel) (fun self => PySem.F.store_LookupError.passes self) hr ha hg hx hdb he hpl
end
end PI

end

section
set_option maxRecDepth 100000
set_option maxHeartbeats 1000000
/-! PiT: simp equations of the later constructs. -/
namespace PI
section
variable {C : Calls} {e : En} {pw : List Nat}
@[simp] theorem exec_par3 {i j l a b c} : exec C pw (.par3 i j l a b c) e = (ev C a e).sr fun r e => (ev C b e).sr fun u e => (ev C c e).sr fun v e => if i ∈ pw ∨ j ∈ pw ∨ l ∈ pw then .no else .nx (((e.set i r).set j u).set l v) := by rw [exec]
@[simp] theorem exec_try {b hs} : exec C pw (.try_ b hs) e = catchS pw hs (execs C pw b e) := by rw [exec]
@[simp] theorem catch_nx {hs e'} : catchS pw hs (.nx e') = .nx e' := rfl
@[simp] theorem catch_rt {hs r e'} : catchS pw hs (.rt r e') = .rt r e' := rfl
@[simp] theorem catch_ex {hs c ps e'} : catchS pw hs (.ex c ps e') = clauses pw hs c ps e' := rfl
end
theorem pmulX_int {a b : Int} (h : L2.CMul a b) : pmulX [.int a, .int b] = some (.fz (.int (a * b))) := pmul_int h
theorem pmulX_tup {xs : List D} {k : Int} (h : k.natAbs ≤ 1000000) (h2 : xs.length * k.toNat ≤ 16777216) : pmulX [.tup xs, .int k] = some (.fz (.tup (List.replicate k.toNat xs).flatten)) := by
  show (if _ then _ else _) = _
  rw [if_pos ⟨by omega, by rw [szl]; exact h2⟩]
end PI

end

section
set_option maxRecDepth 100000
set_option maxHeartbeats 1000000
/-! PiC: what all laws share: draws, sameness, lists for tuples. -/
namespace PI
open PySem (Str PyData)
/-! ### equality of scalars -/
@[simp] theorem peq_int {a b : Int} : peq [.int a, .int b] = some (.fz (.bl (a == b))) := by simp [peq, eqOk, D.toPy, PyData.canLay0, PyData.depth, PyData.eqv]
@[simp] theorem peq_bl {a b : Bool} : peq [.bl a, .bl b] = some (.fz (.bl (a == b))) := by simp [peq, eqOk, D.toPy, PyData.canLay0, PyData.depth, PyData.eqv]
@[simp] theorem pne_int {a b : Int} : pne [.int a, .int b] = some (.fz (.bl (!(a == b)))) := by simp [pne, eqOk, D.toPy, PyData.canLay0, PyData.depth, PyData.eqv]
@[simp] theorem pne_bl {a b : Bool} : pne [.bl a, .bl b] = some (.fz (.bl (!(a == b)))) := by simp [pne, eqOk, D.toPy, PyData.canLay0, PyData.depth, PyData.eqv]
theorem peq_str {a b : Str} (h : PyData.canLay0 (.str a) = true) (h2 : PyData.canLay0 (.str b) = true) : peq [.str a, .str b] = some (.fz (.bl (a == b))) := by
  simp [peq, eqOk, D.toPy, h, h2, PyData.depth, PyData.eqv]
theorem pne_str {a b : Str} (h : PyData.canLay0 (.str a) = true) (h2 : PyData.canLay0 (.str b) = true) : pne [.str a, .str b] = some (.fz (.bl (!(a == b)))) := by
  simp [pne, eqOk, D.toPy, h, h2, PyData.depth, PyData.eqv]
@[simp] theorem plain_tup {n : Nat} {xs : List D} : plainD (n + 1) (.tup xs) = (decide (xs.length ≤ PySem.sizeLine) && plains n xs) := by rw [plainD]
@[simp] theorem plain_lst {n : Nat} {xs : List D} : plainD (n + 1) (.lst xs) = (decide (xs.length ≤ PySem.sizeLine) && plains n xs) := by rw [plainD]
@[simp] theorem plain_int {n : Nat} {i : Int} : plainD n (.int i) = true := by cases n <;> rw [plainD]
@[simp] theorem plain_bl {n : Nat} {b : Bool} : plainD n (.bl b) = true := by cases n <;> rw [plainD]
@[simp] theorem plain_non {n : Nat} : plainD n .non = true := by cases n <;> rw [plainD]
@[simp] theorem plain_str {n : Nat} {x : Str} : plainD n (.str x) = PyData.canLay0 (.str x) := by cases n <;> rw [plainD]
theorem plains_iff {n : Nat} : ∀ {xs : List D}, plains n xs = true ↔ ∀ x ∈ xs, plainD n x = true
  | [] => by simp [plains]
  | x :: xs => by simp [plains, plains_iff (xs := xs)]
theorem bools_map {α : Type} {f : α → D} {g : α → Bool} : ∀ {xs : List α}, (∀ x ∈ xs, f x = .bl (g x)) → bools (xs.map f) = some (xs.map g)
  | [], _ => rfl
  | x :: xs, h => by
    rw [List.map_cons, h x (by simp)]
    show (bools (xs.map f)).map _ = _
    rw [bools_map fun y hy => h y (by simp [hy])]
    rfl
@[simp] theorem pall_eq {xs : List D} : pall [.lst xs] = (bools xs).map fun bs => .fz (.bl (bs.all id)) := rfl
@[simp] theorem pany_eq {xs : List D} : pany [.lst xs] = (bools xs).map fun bs => .fz (.bl (bs.any id)) := rfl
@[simp] theorem ikVal_lst {xs : List D} : ikVal [.lst xs] = some xs := rfl
@[simp] theorem ikVal_tup {xs : List D} : ikVal [.tup xs] = some xs := rfl
@[simp] theorem ikZipX_lst {xs ys : List D} : ikZipX [.lst xs, .lst ys] = some (zipD xs ys) := rfl
@[simp] theorem ikZipX_tup {xs ys : List D} : ikZipX [.tup xs, .tup ys] = some (zipD xs ys) := rfl
@[simp] theorem ikEnumX_lst {xs : List D} : ikEnumX [.lst xs] = some (enumD 0 xs) := rfl
theorem ikRange1_int {j : Int} (h : -1000000000 ≤ j) (h2 : j ≤ 1000000000) : ikRange1 [.int j] = some (rangeD 0 j.toNat) := by
  show (if _ then _ else _) = _
  rw [if_pos (by omega)]
theorem ikRange2_int {i j : Int} (h : -1000000000 ≤ i) (h2 : i ≤ 1000000000) (h3 : -1000000000 ≤ j) (h4 : j ≤ 1000000000) : ikRange2 [.int i, .int j] = some (rangeD i (j - i).toNat) := by
  show (if _ then _ else _) = _
  rw [if_pos ⟨by omega, by omega⟩]
@[simp] theorem outs2 {b : List S} {nl : Nat} {a b' : Ent} {r : En} : outsOf { np := 2, nl := nl, pw := [], body := b } (a :: b' :: r) = [.un, .un] := rfl
@[simp] theorem outs1 {b : List S} {nl : Nat} {a : Ent} {r : En} : outsOf { np := 1, nl := nl, pw := [], body := b } (a :: r) = [.un] := rfl
@[simp] theorem isN_non : D.isN .non = true := rfl
@[simp] theorem isN_bl {b} : D.isN (.bl b) = false := rfl
@[simp] theorem isN_int {b} : D.isN (.int b) = false := rfl
@[simp] theorem isN_str {b} : D.isN (.str b) = false := rfl
@[simp] theorem isN_tup {b} : D.isN (.tup b) = false := rfl
@[simp] theorem isN_lst {b} : D.isN (.lst b) = false := rfl
@[simp] theorem cl_non : D.cl .non = some .none_ := rfl
@[simp] theorem cl_bl {b} : D.cl (.bl b) = some .bool := rfl
@[simp] theorem cl_int {b} : D.cl (.int b) = some .int := rfl
@[simp] theorem cl_str {b} : D.cl (.str b) = some .str := rfl
@[simp] theorem cl_tup {b} : D.cl (.tup b) = some .tuple := rfl
@[simp] theorem cl_lst {b} : D.cl (.lst b) = some .list := rfl
/-! ### the law's sameness -/
def gSame (s : Nat) : FD := { np := 2, nl := 4, pw := [], body := [.ite (.e (.pn (pisi [.list, .tuple]) [.var 1])) [.ite (.or (.e (.pn pne [.pn (pisi [.list]) [.var 0], .pn (pisi [.list]) [.var 1]])) (.e (.pn pne [.pn (pisi [.tuple]) [.var 0], .pn (pisi [.tuple]) [.var 1]]))) [.ret (.lit (.bl false))] [], .ret (.and (.pn peq [.pn plen [.var 0], .pn plen [.var 1]]) (.pn pall [.comp [2, 3] (.tp [.nm 2, .nm 3]) ikZipX [.var 0, .var 1] [] (.call s [false, false] [.var 2, .var 3])]))] [], .ite (.or (.e (.pn pisN [.var 1, .lit .non])) (.e (.pn (pisi [.bool, .str]) [.var 1]))) [.ret (.and (.pn peq [.var 0, .var 1]) (.and (.pn peq [.pn (pisi [.bool]) [.var 0], .pn (pisi [.bool]) [.var 1]]) (.pn peq [.pn pisN [.var 0, .lit .non], .pn pisN [.var 1, .lit .non]])))] [], .ret (.and (.pn (pisi [.int]) [.var 0]) (.and (.not (.pn (pisi [.bool]) [.var 0])) (.pn peq [.var 0, .var 1])))] }
theorem zipD_self : ∀ {ds : List D} {x : D}, x ∈ zipD ds ds → ∃ d ∈ ds, x = .tup [d, d]
  | [], x, h => by simp [zipD] at h
  | d :: ds, x, h => by
    simp only [zipD, List.mem_cons] at h
    rcases h with rfl | h
    · exact ⟨d, by simp, rfl⟩
    · obtain ⟨d', h1, h2⟩ := zipD_self h
      exact ⟨d', by simp [h1], h2⟩
theorem peq_refl {d : D} (h : d.toPy.canLay0 = true) (h2 : d.toPy.depth ≤ 64) : peq [d, d] = some (.fz (.bl true)) := by
  simp [peq, eqOk, h, h2, PySem.SeqAt.eqv_refl _ h]
theorem same_items {tbl : List FD} {s k : Nat} {ds : List D} {a b : Ent} (ih : ∀ d ∈ ds, run tbl k s [.fz d, .fz d] = .ok (.fz (.bl true)) [.un, .un]) (hl : ds.length ≤ PySem.sizeLine) :
    compR [2, 3] (.tp [.nm 2, .nm 3]) (evTs (run tbl k) []) (frozen (ev (run tbl k) (.call s [false, false] [.var 2, .var 3]))) [a, b, .un, .un] (some (zipD ds ds)) = .ok (.ow (.lst ((zipD ds ds).map fun _ => .bl true))) [a, b, .un, .un] := by
  refine comp_map1 (fun _ => .bl true) (fun x hx => ?_) (by rw [zipD_length]; omega)
  obtain ⟨d, hd, rfl⟩ := zipD_self hx
  refine ⟨[a, b, .fz d, .fz d], by simp, ?_, by simp⟩
  simp [ih d hd]
theorem same_ok {tbl : List FD} {s : Nat} (hs : tbl[s]? = some (gSame s)) : ∀ (n : Nat) (k : Nat) (d : D), plainD n d = true → run tbl (k + n + 1) s [.fz d, .fz d] = .ok (.fz (.bl true)) [.un, .un] := by
  intro n
  induction n with
  | zero =>
    intro k d h
    rw [run_def hs rfl]
    cases d with
    | non => simp [gSame, isC, peq_refl, D.toPy, PyData.canLay0, PyData.depth]
    | bl b => simp [gSame, isC]
    | int i => simp [gSame, isC]
    | str x =>
      have hx : PyData.canLay0 (.str x) = true := by simpa using h
      simp [gSame, isC, peq_str hx hx]
    | _ => simp [plainD] at h
  | succ n ih =>
    intro k d h
    rw [run_def hs rfl]
    cases d with
    | non => simp [gSame, isC, peq_refl, D.toPy, PyData.canLay0, PyData.depth]
    | bl b => simp [gSame, isC]
    | int i => simp [gSame, isC]
    | str x =>
      have hx : PyData.canLay0 (.str x) = true := by simpa using h
      simp [gSame, isC, peq_str hx hx]
    | tup ds =>
      simp only [plain_tup, Bool.and_eq_true, decide_eq_true_eq, plains_iff] at h
      have := same_items (a := .fz (.tup ds)) (b := .fz (.tup ds)) (fun d hd => ih k d (h.2 d hd)) h.1
      simp [gSame, isC, Nat.add_assoc] at this ⊢
      rw [this]
      simp [bools_map (f := fun _ => D.bl true) (g := fun _ => true)]
    | lst ds =>
      simp only [plain_lst, Bool.and_eq_true, decide_eq_true_eq, plains_iff] at h
      have := same_items (a := .fz (.lst ds)) (b := .fz (.lst ds)) (fun d hd => ih k d (h.2 d hd)) h.1
      simp [gSame, isC, Nat.add_assoc] at this ⊢
      rw [this]
      simp [bools_map (f := fun _ => D.bl true) (g := fun _ => true)]
    | _ => simp [plainD] at h
end PI

end

section
set_option maxRecDepth 100000
set_option maxHeartbeats 1000000
/-! PiU: the source of draws, shared by all laws. -/
namespace PI
open PySem (Str PyData)
/-- the source of draws: so many draws are left -/
def Urn (b : Nat) (u : D) : Prop := ∃ x y c : Int, u = .lst [.int x, .int y, .int c] ∧ 0 ≤ x ∧ 0 ≤ c ∧ c + b ≤ 2 ^ 40
theorem Urn.mono {b b' : Nat} {u : D} (h : Urn b u) (hb : b' ≤ b) : Urn b' u := by
  obtain ⟨x, y, c, h1, h2, h3, h4⟩ := h
  exact ⟨x, y, c, h1, h2, h3, by omega⟩
theorem cmul_l {a b : Int} (h : -(2 ^ 64) < a) (h2 : a < 2 ^ 64) : L2.CMul a b := .inl ⟨h, h2⟩
theorem cmul_r {a b : Int} (h : -(2 ^ 64) < b) (h2 : b < 2 ^ 64) : L2.CMul a b := .inr ⟨h, h2⟩
def gTake : FD := { np := 2, nl := 6, pw := [0], body := [.ite (.e (.pn pgt [.pn pidx [.var 0, .lit (.int 0)], .lit (.int 0)])) [.set 5 (.pn pmod [.pn pint [.pn pidx [.var 0, .lit (.int 0)]], .var 1]), .sti 0 (.lit (.int 0)) (.pn pfdiv [.pn pidx [.var 0, .lit (.int 0)], .var 1]), .ret (.var 5)] [], .sti 0 (.lit (.int 2)) (.pn padd [.pn pidx [.var 0, .lit (.int 2)], .lit (.int 1)]), .set 2 (.pn pmod [.pn pint [.pn pmulX [.pn padd [.pn pidx [.var 0, .lit (.int 1)], .pn pmulX [.lit (.int 48271), .pn pidx [.var 0, .lit (.int 2)]]], .pn padd [.lit (.int 39373), .pn pidx [.var 0, .lit (.int 2)]]]], .lit (.int 2147483647)]), .set 3 (.pn padd [.pn pmod [.pn pint [.var 2], .lit (.int 40009)], .lit (.int 7)]), .set 4 (.pn pmod [.pn pint [.pn pmulX [.pn padd [.pn padd [.var 2, .pn pidx [.var 0, .lit (.int 2)]], .pn pfdiv [.pn pidx [.var 0, .lit (.int 1)], .lit (.int 1000003)]], .var 3]], .lit (.int 2147483629)]), .ret (.pn pmod [.pn pint [.pn pfdiv [.pn pmod [.pn pint [.pn padd [.pn pmulX [.var 4, .lit (.int 48271)], .var 2]], .lit (.int 2147483587)], .lit (.int 64)]], .var 1])] }
theorem take_ok {tbl : List FD} {t : Nat} (ht : tbl[t]? = some gTake) (k : Nat) {b : Nat} {low : Int} {u : D} (h : Urn b u) (hb : 1 ≤ b) (h0 : 0 < low) (h1 : low < 2 ^ 29) :
    ∃ (r : Int) (u' : D), run tbl (k + 1) t [.ow u, .fz (.int low)] = .ok (.fz (.int r)) [.ow u', .un] ∧ 0 ≤ r ∧ r < low ∧ Urn (b - 1) u' := by
  obtain ⟨a, y, c, rfl, ha, hc0, hcn⟩ := h
  rw [run_def ht rfl]
  have hl0 : low ≠ 0 := by omega
  have hl1 : low.natAbs < 1073741824 := by omega
  by_cases ha0 : 0 < a
  · refine ⟨a.fmod low, .lst [.int (a.fdiv low), .int y, .int c], ?_, ?_, ?_, ?_⟩
    · simp [gTake, ha0, hl0, hl1, stiL, outsOf, List.range_succ]
    · exact Int.fmod_nonneg_of_pos _ h0
    · exact Int.fmod_lt_of_pos _ h0
    · exact ⟨_, _, _, rfl, by rw [Int.fdiv_eq_ediv_of_nonneg _ (by omega)]; exact Int.ediv_nonneg ha (by omega), hc0, by omega⟩
  · have m1 : L2.CMul 48271 (c + 1) := cmul_l (by decide) (by decide)
    have m2 : L2.CMul (y + 48271 * (c + 1)) (39373 + (c + 1)) := cmul_r (by omega) (by omega)
    generalize hx : (Int.fmod ((y + 48271 * (c + 1)) * (39373 + (c + 1))) 2147483647) = x
    have by0 := Int.fmod_nonneg_of_pos x (show (0 : Int) < 40009 by decide)
    have by1 := Int.fmod_lt_of_pos x (show (0 : Int) < 40009 by decide)
    have m3 : L2.CMul (x + (c + 1) + y.fdiv 1000003) (x.fmod 40009 + 7) := cmul_r (by omega) (by omega)
    generalize hy : (Int.fmod ((x + (c + 1) + y.fdiv 1000003) * (x.fmod 40009 + 7)) 2147483629) = z
    have m4 : L2.CMul z 48271 := cmul_r (by decide) (by decide)
    refine ⟨(Int.fmod (Int.fdiv (Int.fmod (z * 48271 + x) 2147483587) 64) low), .lst [.int a, .int y, .int (c + 1)], ?_, ?_, ?_, ?_⟩
    · simp [gTake, ha0, hl0, hl1, stiL, outsOf, List.range_succ, pmulX_int, m1, m2, hx, m3, hy, m4]
    · exact Int.fmod_nonneg_of_pos _ h0
    · exact Int.fmod_lt_of_pos _ h0
    · exact ⟨_, _, _, rfl, ha, by omega, by omega⟩
/-- an item of a list or a tuple, drawn -/
def gOf (t : Nat) : FD := { np := 2, nl := 2, pw := [0], body := [.ret (.pn pidx [.var 1, .call t [true, false] [.var 0, .pn plen [.var 1]]])] }
theorem of_ok {tbl : List FD} {t o : Nat} (ho : tbl[o]? = some (gOf t)) (ht : tbl[t]? = some gTake) (k : Nat) {b : Nat} {u : D} {goods : D} {gs : List D} (hg : goods = .lst gs ∨ goods = .tup gs) (h : Urn b u) (hb : 1 ≤ b) (h0 : gs ≠ []) (h1 : gs.length < 2 ^ 29) :
    ∃ (g u' : D), run tbl (k + 2) o [.ow u, .fz goods] = .ok (.fz g) [.ow u', .un] ∧ g ∈ gs ∧ Urn (b - 1) u' := by
  have hp : 0 < gs.length := List.length_pos_iff.mpr h0
  obtain ⟨r, u', e, r0, r1, hu⟩ := take_ok ht k h hb (low := (gs.length : Int)) (by omega) (by omega)
  rw [run_def ho rfl]
  have hr : r = ((r.toNat : Nat) : Int) := by omega
  have hlt : r.toNat < gs.length := by omega
  refine ⟨gs[r.toNat], u', ?_, List.getElem_mem _, hu⟩
  have at_ : L2.atI gs r = some gs[r.toNat] := by
    have e1 := atI_nat (xs := gs) (n := r.toNat)
    rw [← hr] at e1
    rw [e1]; simp [hlt]
  rcases hg with rfl | rfl
  · simp [gOf, e, at_, outsOf, List.range_succ]
  · simp [gOf, e, at_, outsOf, List.range_succ]
def gBox (c : Int) : FD := { np := 2, nl := 3, pw := [], body := [.set 2 (.ite (.e (.pn plt [.var 1, .pn plen [.var 0]])) (.pn pidx [.var 0, .var 1]) (.lit (.int 0))), .ret (.lst [.pn pmulX [.pn pabs [.var 2], .pn pint [.pn pge [.pn pabs [.var 2], .pn ppow [.lit (.int 10), .lit (.int 18)]]]], .pn padd [.pn padd [.pn pmod [.pn pint [.var 2], .lit (.int 2305843009213693951)], .pn pmulX [.lit (.int 39373), .var 1]], .lit (.int c)], .lit (.int 0)])] }
theorem box_ok {tbl : List FD} {x : Nat} {c : Int} (hx : tbl[x]? = some (gBox c)) (k : Nat) {cs : List Int} (h0 : cs ≠ []) : ∃ u, run tbl (k + 1) x [.fz (.lst (cs.map D.int)), .fz (.int 0)] = .ok (.ow u) [.un, .un] ∧ Urn 1000000 u := by
  obtain ⟨v, r, rfl⟩ : ∃ v r, cs = v :: r := by
    cases cs with
    | nil => exact (h0 rfl).elim
    | cons v r => exact ⟨v, r, rfl⟩
  rw [run_def hx rfl]
  generalize hy : (if v < 0 then -v else v) = y
  have hy0 : 0 ≤ y := by rw [← hy]; split <;> omega
  have pw : ppow [.int 10, .int 18] = some (.fz (.int 1000000000000000000)) := rfl
  have m1 : ∀ t : Bool, L2.CMul y (if t = true then 1 else 0) := fun t => cmul_r (by cases t <;> decide) (by cases t <;> decide)
  have m2 : L2.CMul 39373 0 := cmul_l (by decide) (by decide)
  refine ⟨.lst [.int (y * (if decide ((1000000000000000000 : Int) ≤ y) = true then 1 else 0)), .int (v.fmod 2305843009213693951 + 39373 * 0 + c), .int 0], ?_, _, _, _, rfl, ?_, by omega, by decide⟩
  · have m1' := m1 (decide ((1000000000000000000 : Int) ≤ y))
    simp only [decide_eq_true_eq] at m1'
    simp [gBox, lstR, szl, hy, pw, pmulX_int, m1', m2, show (0 : Int) < (r.length : Int) + 1 by omega]
  · split <;> omega
/-! ### the first numbers of the script -/
def gCells : FD := { np := 2, nl := 6, pw := [], body := [.set 2 (.or (.pn plist [.sl (.var 0) [] [.var 1]]) (.lst [.lit (.int 0)])), .for_ (.tp [.nm 3, .nm 4]) ikEnumX [.sl (.var 0) [.var 1] [.lit (.int 63)]] [.set 5 (.pn pmod [.pn pint [.var 3], .var 1]), .sti 2 (.var 5) (.pn padd [.pn pidx [.var 2, .var 5], .pn pmulX [.var 4, .pn padd [.var 3, .lit (.int 2)]]])], .ret (.var 2)] }
theorem fmod_one (a : Int) : a.fmod 1 = 0 := by
  have h1 := Int.fmod_nonneg_of_pos a (show (0 : Int) < 1 by decide)
  have h2 := Int.fmod_lt_of_pos a (show (0 : Int) < 1 by decide)
  omega
theorem cells_loop {C : Calls} {a b : Ent} : ∀ (ns : List Int) (n : Nat) (v : Int) (x y z : Ent), n + ns.length ≤ 1000 → b = .fz (.int 1) → ∃ w x' y' z', forLoop [] (.tp [.nm 3, .nm 4]) (execs C [] [.set 5 (.pn pmod [.pn pint [.var 3], .var 1]), .sti 2 (.var 5) (.pn padd [.pn pidx [.var 2, .var 5], .pn pmulX [.var 4, .pn padd [.var 3, .lit (.int 2)]]])]) (enumD n (ns.map D.int)) [a, b, .ow (.lst [.int v]), x, y, z] = .nx [a, b, .ow (.lst [.int w]), x', y', z']
  | [], n, v, x, y, z, _, _ => ⟨v, x, y, z, by simp [enumD]⟩
  | m :: ns, n, v, x, y, z, hn, hb => by
    subst hb
    have m1 : L2.CMul m ((n : Int) + 2) := cmul_r (by simp at hn; omega) (by simp at hn; omega)
    obtain ⟨w, x', y', z', h⟩ := cells_loop (C := C) (a := a) (b := .fz (.int 1)) ns (n + 1) (v + m * ((n : Int) + 2)) (.fz (.int n)) (.fz (.int m)) (.fz (.int 0)) (by simp at hn; omega) rfl
    refine ⟨w, x', y', z', ?_⟩
    rw [List.map_cons, enumD]
    simp [fmod_one, pmulX_int, m1, stiL, h]
theorem cutD_to1 {xs : List D} : cutD xs none (some 1) = xs.take 1 := by
  unfold cutD
  rw [show HT.sIx xs.length xs.length (some 1) = min 1 xs.length from HT.sIx_nat xs.length xs.length 1, HT.sIx_none]
  cases xs with
  | nil => rfl
  | cons x r => simp
theorem cutD_from1 {xs : List D} (h : xs.length ≤ 63) : cutD xs (some 1) (some 63) = xs.drop 1 := by
  unfold cutD
  rw [show HT.sIx xs.length 0 (some 1) = min 1 xs.length from HT.sIx_nat xs.length 0 1, show HT.sIx xs.length xs.length (some 63) = min 63 xs.length from HT.sIx_nat xs.length xs.length 63]
  cases xs with
  | nil => rfl
  | cons x r =>
    simp at h
    have e1 : min 63 (x :: r).length = r.length + 1 := by simp; omega
    have e2 : min 1 (x :: r).length = 1 := by simp
    rw [e1, e2]
    simp
theorem cells_ok {tbl : List FD} {x : Nat} (hx : tbl[x]? = some gCells) (k : Nat) {ns : List Int} (h : ns.length ≤ 63) : ∃ w : Int, run tbl (k + 1) x [.fz (.scr (ns.map D.int)), .fz (.int 1)] = .ok (.ow (.lst ([w].map D.int))) [.un, .un] := by
  rw [run_def hx rfl]
  have e2 := cutD_from1 (xs := ns.map D.int) (by simpa using h)
  cases ns with
  | nil =>
    refine ⟨0, ?_⟩
    simp [gCells, lstR, szl, cutD_to1, e2, plist, enumD] at e2 ⊢
    simp [e2, enumD]
  | cons v r =>
    obtain ⟨w, x', y', z', hl⟩ := cells_loop (C := run tbl k) (a := .fz (.scr ((v :: r).map D.int))) (b := .fz (.int 1)) r 0 v .un .un .un (by simp at h; omega) rfl
    refine ⟨w, ?_⟩
    simp at e2 hl
    simp [gCells, cutD_to1, e2, hl]
theorem popAt_eq {i : Nat} {e : En} {ds : List D} {n : Nat} (h : e[i]? = some (.ow (.lst ds))) (hn : n < ds.length) (hz : ds.length ≤ 1000) : popAt i (.fz (.int (n : Int))) e = .ok (.fz ds[n]) (e.set i (.ow (.lst (ds.eraseIdx n)))) := by
  have h1 : ownL e i = some ds := by simp [h]
  have h2 : PySem.seqIndex? (n : Int) ds.length = some n := by
    unfold PySem.seqIndex?
    have e1 : ¬ ((n : Int) < 0) := by omega
    simp only [e1, if_false]
    simp [hn]
  unfold popAt
  rw [h1]
  dsimp only
  rw [if_pos (by omega), h2]
  simp [hn]
theorem appL_eq {i : Nat} {e : En} {ds : List D} {d : D} (h : e[i]? = some (.ow (.lst ds))) (hz : ds.length ≤ 1000000) : appL i d e = some (e.set i (.ow (.lst (ds ++ [d])))) := by
  have h1 : ownL e i = some ds := by simp [h]
  unfold appL
  rw [h1]
  dsimp only
  rw [if_pos (by rw [szl]; omega)]
theorem rangeD_length {lo : Int} {n : Nat} : (rangeD lo n).length = n := by simp [rangeD]
def gPick (t : Nat) : FD := { np := 3, nl := 6, pw := [0], body := [.par 4 5 (.pn plist [.var 1]) (.lst []), .for_ (.nm 3) ikRange1 [.pn pmin2 [.pn pint [.var 2], .pn plen [.var 4]]] [.app 5 (.popA 4 (.call t [true, false] [.var 0, .pn plen [.var 4]]))], .ret (.var 5)] }
theorem pick_ok {tbl : List FD} {t p : Nat} (hp : tbl[p]? = some (gPick t)) (ht : tbl[t]? = some gTake) (k : Nat) {b : Nat} {c : Int} {u : D} {goods : List D} (h : Urn b u) (hc0 : 0 ≤ c) (hc1 : c ≤ 100) (hb : 100 ≤ b) (hz : goods.length ≤ 1000) :
    ∃ (fs : List D) (u' : D), run tbl (k + 2) p [.ow u, .fz (.lst goods), .fz (.int c)] = .ok (.ow (.lst fs)) [.ow u', .un, .un] ∧ (∀ d ∈ fs, d ∈ goods) ∧ fs.length ≤ 100 ∧ Urn (b - 100) u' := by
  rw [run_def hp rfl]
  generalize hmm : (if (goods.length : Int) < c then (goods.length : Int) else c) = mm
  have hm0 : 0 ≤ mm ∧ mm ≤ 100 ∧ mm ≤ goods.length := by rw [← hmm]; split <;> omega
  have := forLoop_inv (pw := [0]) (tg := .nm 3) (b := execs (run tbl (k + 1)) [0] [.app 5 (.popA 4 (.call t [true, false] [.var 0, .pn plen [.var 4]]))])
    (fun rest e => ∃ u x pool found, e = [.ow u, .fz (.lst goods), .fz (.int c), x, .ow (.lst pool), .ow (.lst found)] ∧ Urn (b - found.length) u ∧ (∀ d ∈ pool, d ∈ goods) ∧ (∀ d ∈ found, d ∈ goods) ∧ rest.length ≤ pool.length ∧ pool.length ≤ 1000 ∧ found.length + rest.length ≤ 100) (fun x rest e => by
      rintro ⟨u, y, pool, found, rfl, hu, h1, h2, h3, h5, h4⟩
      simp only [List.length_cons] at h3 h4
      obtain ⟨r, u', e1, r0, r1, hu'⟩ := take_ok ht k hu (by omega) (low := (pool.length : Int)) (by omega) (by omega)
      refine ⟨_, by simp; rfl, ?_⟩
      obtain ⟨n, rfl⟩ : ∃ n : Nat, r = (n : Int) := ⟨r.toNat, by omega⟩
      have hn : n < pool.length := by omega
      refine ⟨[.ow u', .fz (.lst goods), .fz (.int c), .fz x, .ow (.lst (pool.eraseIdx n)), .ow (.lst (found ++ [pool[n]]))], .inl ?_, u', .fz x, _, _, rfl, ?_, ?_, ?_, ?_, ?_, ?_⟩
      · have e2 := popAt_eq (i := 4) (e := [.ow u', .fz (.lst goods), .fz (.int c), .fz x, .ow (.lst pool), .ow (.lst found)]) (ds := pool) (n := n) rfl hn h5
        have e3 := appL_eq (i := 5) (e := [.ow u', .fz (.lst goods), .fz (.int c), .fz x, .ow (.lst (pool.eraseIdx n)), .ow (.lst found)]) (ds := found) (d := pool[n]) rfl (by omega)
        simp at e1 e2 e3
        simp [e1, e2, e3]
      · simp; exact hu'.mono (by omega)
      · intro d hd; exact h1 d (List.mem_of_mem_eraseIdx hd)
      · intro d hd
        rcases List.mem_append.mp hd with hd | hd
        · exact h2 d hd
        · simp at hd; subst hd; exact h1 _ (List.getElem_mem _)
      · rw [List.length_eraseIdx]; split <;> omega
      · rw [List.length_eraseIdx]; split <;> omega
      · simp; omega) (xs := rangeD 0 mm.toNat) (e := [.ow u, .fz (.lst goods), .fz (.int c), .un, .ow (.lst goods), .ow (.lst [])]) ⟨u, .un, goods, [], rfl, by simpa using h, by simp, by simp, by rw [rangeD_length]; omega, hz, by rw [rangeD_length]; simp; omega⟩
  obtain ⟨e', h1, u', x, pool, found, rfl, h2, h3, h4, _, _, h5⟩ := this
  refine ⟨found, u', ?_, h4, by simp at h5; omega, h2.mono (by simp at h5; omega)⟩
  have hr := ikRange1_int (j := mm) (by omega) (by omega)
  simp [gPick, lstR, szl, hmm, hr, h1, outsOf, List.range_succ]
end PI

end

section
set_option maxRecDepth 100000
set_option maxHeartbeats 1000000
/-! PiM: words, slices, lists for tuples and back, shared by all laws. -/
namespace PI
open PySem (Str PyData)
/-! ### words of the text -/
def wIn : Str := Str.ofString "in"
def wOut : Str := Str.ofString "out"
def wQ : Str := Str.ofString "queue"
def wP : Str := Str.ofString "pile"
def md (q : Bool) : Str := if q then wQ else wP
theorem lay_lit (x : Str) (h : PyData.canLay0 (.str x) = true := by kernel_rfl) : PyData.canLay0 (.str x) = true := h
theorem lay_in : PyData.canLay0 (.str wIn) = true := by kernel_rfl
theorem lay_out : PyData.canLay0 (.str wOut) = true := by kernel_rfl
theorem lay_q : PyData.canLay0 (.str wQ) = true := by kernel_rfl
theorem lay_p : PyData.canLay0 (.str wP) = true := by kernel_rfl
theorem lay_md {q : Bool} : PyData.canLay0 (.str (md q)) = true := by cases q <;> kernel_rfl
@[simp] theorem peq_ii : peq [.str (Str.ofString "in"), .str (Str.ofString "in")] = some (.fz (.bl true)) := (peq_str lay_in lay_in).trans rfl
@[simp] theorem peq_oi : peq [.str (Str.ofString "out"), .str (Str.ofString "in")] = some (.fz (.bl false)) := (peq_str lay_out lay_in).trans rfl
@[simp] theorem peq_io : peq [.str (Str.ofString "in"), .str (Str.ofString "out")] = some (.fz (.bl false)) := (peq_str lay_in lay_out).trans rfl
@[simp] theorem peq_oo : peq [.str (Str.ofString "out"), .str (Str.ofString "out")] = some (.fz (.bl true)) := (peq_str lay_out lay_out).trans rfl
@[simp] theorem peq_md {q : Bool} : peq [.str (md q), .str (Str.ofString "queue")] = some (.fz (.bl q)) := by
  cases q
  · exact (peq_str lay_p lay_q).trans rfl
  · exact (peq_str lay_q lay_q).trans rfl
@[simp] theorem ikZipX_lt {xs ys : List D} : ikZipX [.lst xs, .tup ys] = some (zipD xs ys) := rfl
@[simp] theorem ikZipX_tl {xs ys : List D} : ikZipX [.tup xs, .lst ys] = some (zipD xs ys) := rfl
@[simp] theorem ikEnumX_tup {xs : List D} : ikEnumX [.tup xs] = some (enumD 0 xs) := rfl
/-! ### slices -/
theorem cut_from {xs : List D} {m : Nat} : cutD xs (some (m : Int)) none = xs.drop m := by
  unfold cutD
  rw [HT.sIx_nat, HT.sIx_none]
  by_cases h : m ≤ xs.length
  · rw [Nat.min_eq_left h, List.take_of_length_le (by simp)]
  · rw [Nat.min_eq_right (by omega), List.drop_length, List.drop_eq_nil_of_le (by omega)]; simp
theorem cut_to {xs : List D} {m : Nat} : cutD xs none (some (m : Int)) = xs.take m := by
  unfold cutD
  rw [HT.sIx_nat, HT.sIx_none]
  by_cases h : m ≤ xs.length
  · simp [Nat.min_eq_left h]
  · simp [Nat.min_eq_right (show xs.length ≤ m by omega), List.take_of_length_le (show xs.length ≤ m by omega)]
theorem cut_fromN {xs : List D} {m : Nat} (hm : 0 < m) : cutD xs (some (-(m : Int))) none = xs.drop (xs.length - m) := by
  unfold cutD
  have h : HT.sIx xs.length 0 (some (-(m : Int))) = xs.length - m := by
    show (if (-(m : Int)) < 0 then (-(m : Int) + (xs.length : Int)).toNat else _) = _
    rw [if_pos (by omega)]; omega
  rw [h, HT.sIx_none, List.take_of_length_le (by simp)]
theorem cut_toN {xs : List D} {m : Nat} (hm : 0 < m) : cutD xs none (some (-(m : Int))) = xs.take (xs.length - m) := by
  unfold cutD
  have h : HT.sIx xs.length xs.length (some (-(m : Int))) = xs.length - m := by
    show (if (-(m : Int)) < 0 then (-(m : Int) + (xs.length : Int)).toNat else _) = _
    rw [if_pos (by omega)]; omega
  rw [h, HT.sIx_none]; simp
@[simp] theorem cut_from0 {xs : List D} : cutD xs (some 0) none = xs := cut_from (m := 0)
@[simp] theorem cut_from1 {xs : List D} : cutD xs (some 1) none = xs.drop 1 := cut_from (m := 1)
@[simp] theorem cut_from2 {xs : List D} : cutD xs (some 2) none = xs.drop 2 := cut_from (m := 2)
@[simp] theorem cut_last {xs : List D} : cutD xs none (some (-1)) = xs.dropLast := by
  rw [List.dropLast_eq_take]; exact cut_toN (m := 1) (by omega)
theorem cut_fromI {xs : List D} {i : Int} (h : 0 ≤ i) : cutD xs (some i) none = xs.drop i.toNat := by
  obtain ⟨m, rfl⟩ : ∃ m : Nat, i = (m : Int) := ⟨i.toNat, by omega⟩
  exact cut_from
theorem cut_toI {xs : List D} {i : Int} (h : 0 ≤ i) : cutD xs none (some i) = xs.take i.toNat := by
  obtain ⟨m, rfl⟩ : ∃ m : Nat, i = (m : Int) := ⟨i.toNat, by omega⟩
  exact cut_to
theorem slD_td {lo hi : Option Int} {xs ys : List D} (h : cutD xs lo hi = ys) : slD lo hi (.tup xs) = some (.fz (.tup ys)) := by rw [slD_tup, h]
/-! ### tuples for lists, lists for tuples -/
def tupD : Nat → D → D
  | 0, d => d
  | n + 1, d => match d with
    | .tup xs => .tup (xs.map (tupD n))
    | .lst xs => .tup (xs.map (tupD n))
    | d => d
def lstD : Nat → D → D
  | 0, d => d
  | n + 1, d => match d with
    | .tup xs => .lst (xs.map (lstD n))
    | .lst xs => .lst (xs.map (lstD n))
    | d => d
@[simp] theorem tupD_tup {n xs} : tupD (n + 1) (.tup xs) = .tup (xs.map (tupD n)) := rfl
@[simp] theorem tupD_lst {n xs} : tupD (n + 1) (.lst xs) = .tup (xs.map (tupD n)) := rfl
@[simp] theorem tupD_int {n i} : tupD n (.int i) = .int i := by cases n <;> rfl
@[simp] theorem tupD_str {n i} : tupD n (.str i) = .str i := by cases n <;> rfl
@[simp] theorem tupD_bl {n i} : tupD n (.bl i) = .bl i := by cases n <;> rfl
@[simp] theorem tupD_non {n} : tupD n .non = .non := by cases n <;> rfl
@[simp] theorem lstD_tup {n xs} : lstD (n + 1) (.tup xs) = .lst (xs.map (lstD n)) := rfl
@[simp] theorem lstD_lst {n xs} : lstD (n + 1) (.lst xs) = .lst (xs.map (lstD n)) := rfl
@[simp] theorem lstD_int {n i} : lstD n (.int i) = .int i := by cases n <;> rfl
@[simp] theorem lstD_str {n i} : lstD n (.str i) = .str i := by cases n <;> rfl
@[simp] theorem lstD_bl {n i} : lstD n (.bl i) = .bl i := by cases n <;> rfl
@[simp] theorem lstD_non {n} : lstD n .non = .non := by cases n <;> rfl
def gTup (s : Nat) : FD := { np := 1, nl := 2, pw := [], body := [.ite (.e (.pn (pisi [.list, .tuple]) [.var 0])) [.ret (.pn ptuple [.comp [1] (.nm 1) ikVal [.var 0] [] (.call s [false] [.var 1])])] [], .ret (.var 0)] }
def gLists (s : Nat) : FD := { np := 1, nl := 2, pw := [], body := [.ret (.ite (.e (.pn (pisi [.list, .tuple]) [.var 0])) (.comp [1] (.nm 1) ikVal [.var 0] [] (.call s [false] [.var 1])) (.var 0))] }
theorem tup_items {tbl : List FD} {s k : Nat} {f : D → D} {ds : List D} {a : Ent} (ih : ∀ d ∈ ds, run tbl k s [.fz d] = .ok (.fz (f d)) [.un]) (hl : ds.length ≤ PySem.sizeLine) :
    compR [1] (.nm 1) (evTs (run tbl k) []) (frozen (ev (run tbl k) (.call s [false] [.var 1]))) [a, .un] (some ds) = .ok (.ow (.lst (ds.map f))) [a, .un] := by
  refine comp_map1 f (fun x hx => ⟨[a, .fz x], by simp, ?_, by simp⟩) hl
  simp [ih x hx]
theorem tup_ok {tbl : List FD} {s : Nat} (hs : tbl[s]? = some (gTup s)) : ∀ (n : Nat) (k : Nat) (d : D), plainD n d = true → run tbl (k + n + 1) s [.fz d] = .ok (.fz (tupD n d)) [.un] := by
  intro n
  induction n with
  | zero =>
    intro k d h
    rw [run_def hs rfl]
    cases d with
    | non => simp [gTup, isC]
    | bl b => simp [gTup, isC]
    | int i => simp [gTup, isC]
    | str x => simp [gTup, isC]
    | _ => simp [plainD] at h
  | succ n ih =>
    intro k d h
    rw [run_def hs rfl]
    cases d with
    | non => simp [gTup, isC]
    | bl b => simp [gTup, isC]
    | int i => simp [gTup, isC]
    | str x => simp [gTup, isC]
    | tup ds =>
      simp only [plain_tup, Bool.and_eq_true, decide_eq_true_eq, plains_iff] at h
      have := tup_items (a := .fz (.tup ds)) (fun d hd => ih k d (h.2 d hd)) h.1
      simp [gTup, isC, Nat.add_assoc] at this ⊢
      rw [this]
      simp
    | lst ds =>
      simp only [plain_lst, Bool.and_eq_true, decide_eq_true_eq, plains_iff] at h
      have := tup_items (a := .fz (.lst ds)) (fun d hd => ih k d (h.2 d hd)) h.1
      simp [gTup, isC, Nat.add_assoc] at this ⊢
      rw [this]
      simp
    | _ => simp [plainD] at h
theorem lst_items {tbl : List FD} {s k : Nat} {f : D → D} {ds : List D} {a : Ent} (ih : ∀ d ∈ ds, ∃ r, run tbl k s [.fz d] = .ok r [.un] ∧ (r = .fz (f d) ∨ r = .ow (f d))) (hl : ds.length ≤ PySem.sizeLine) :
    compR [1] (.nm 1) (evTs (run tbl k) []) (frozen (ev (run tbl k) (.call s [false] [.var 1]))) [a, .un] (some ds) = .ok (.ow (.lst (ds.map f))) [a, .un] := by
  refine comp_map1 f (fun x hx => ⟨[a, .fz x], by simp, ?_, by simp⟩) hl
  obtain ⟨r, h1, h2⟩ := ih x hx
  rcases h2 with rfl | rfl <;> simp [h1]
theorem lists_at {tbl : List FD} {s : Nat} (hs : tbl[s]? = some (gLists s)) : ∀ (n : Nat) (k : Nat) (d : D), plainD n d = true → ∃ r, run tbl (k + n + 1) s [.fz d] = .ok r [.un] ∧ (r = .fz (lstD n d) ∨ r = .ow (lstD n d)) := by
  intro n
  induction n with
  | zero =>
    intro k d h
    rw [run_def hs rfl]
    cases d with
    | non => exact ⟨.fz .non, by simp [gLists, isC], .inl rfl⟩
    | bl b => exact ⟨.fz (.bl b), by simp [gLists, isC], .inl rfl⟩
    | int i => exact ⟨.fz (.int i), by simp [gLists, isC], .inl rfl⟩
    | str x => exact ⟨.fz (.str x), by simp [gLists, isC], .inl rfl⟩
    | _ => simp [plainD] at h
  | succ n ih =>
    intro k d h
    rw [run_def hs rfl]
    cases d with
    | non => exact ⟨.fz .non, by simp [gLists, isC], .inl rfl⟩
    | bl b => exact ⟨.fz (.bl b), by simp [gLists, isC], .inl rfl⟩
    | int i => exact ⟨.fz (.int i), by simp [gLists, isC], .inl rfl⟩
    | str x => exact ⟨.fz (.str x), by simp [gLists, isC], .inl rfl⟩
    | tup ds =>
      simp only [plain_tup, Bool.and_eq_true, decide_eq_true_eq, plains_iff] at h
      have := lst_items (a := .fz (.tup ds)) (fun d hd => ih k d (h.2 d hd)) h.1
      refine ⟨.ow (lstD (n + 1) (.tup ds)), ?_, .inr rfl⟩
      simp [gLists, isC, Nat.add_assoc] at this ⊢
      rw [this]; simp
    | lst ds =>
      simp only [plain_lst, Bool.and_eq_true, decide_eq_true_eq, plains_iff] at h
      have := lst_items (a := .fz (.lst ds)) (fun d hd => ih k d (h.2 d hd)) h.1
      refine ⟨.ow (lstD (n + 1) (.lst ds)), ?_, .inr rfl⟩
      simp [gLists, isC, Nat.add_assoc] at this ⊢
      rw [this]; simp
    | _ => simp [plainD] at h
/-- .. of a tuple: a list of one's own -/
theorem lists_tup {tbl : List FD} {s : Nat} (hs : tbl[s]? = some (gLists s)) (n k : Nat) (ds : List D) (h : plainD (n + 1) (.tup ds) = true) : run tbl (k + (n + 1) + 1) s [.fz (.tup ds)] = .ok (.ow (.lst (ds.map (lstD n)))) [.un] := by
  rw [run_def hs rfl]
  simp only [plain_tup, Bool.and_eq_true, decide_eq_true_eq, plains_iff] at h
  have := lst_items (a := .fz (.tup ds)) (fun d hd => lists_at hs n k d (h.2 d hd)) h.1
  simp [gLists, isC, Nat.add_assoc] at this ⊢
  rw [this]; simp
theorem plain_lstD : ∀ {n : Nat} {d : D}, plainD n d = true → plainD n (lstD n d) = true
  | 0, d, h => h
  | n + 1, d, h => by
    cases d with
    | tup xs => simp only [plain_tup, lstD_tup, plain_lst, Bool.and_eq_true, decide_eq_true_eq, plains_iff, List.length_map] at h ⊢; exact ⟨h.1, fun x hx => by obtain ⟨y, hy, rfl⟩ := List.mem_map.mp hx; exact plain_lstD (h.2 y hy)⟩
    | lst xs => simp only [plain_lst, lstD_lst, plain_lst, Bool.and_eq_true, decide_eq_true_eq, plains_iff, List.length_map] at h ⊢; exact ⟨h.1, fun x hx => by obtain ⟨y, hy, rfl⟩ := List.mem_map.mp hx; exact plain_lstD (h.2 y hy)⟩
    | _ => exact h
/-- tuples for the lists that stand for tuples -/
theorem tup_lst : ∀ {n : Nat} {d : D}, tupD n (lstD n d) = tupD n d
  | 0, d => rfl
  | n + 1, d => by
    cases d with
    | tup xs => simp only [lstD_tup, tupD_lst, tupD_tup, List.map_map]; congr 1; apply List.map_congr_left; intro x _; exact tup_lst
    | lst xs => simp only [lstD_lst, tupD_lst, List.map_map]; congr 1; apply List.map_congr_left; intro x _; exact tup_lst
    | _ => rfl
/-! ### plain data can be laid -/
mutual
theorem plain_lay : ∀ {n : Nat} {d : D}, plainD n d = true → d.toPy.canLay0 = true ∧ d.toPy.depth ≤ n + 1
  | n, .non, h => by simp [D.toPy, PyData.canLay0, PyData.depth]
  | n, .bl b, h => by simp [D.toPy, PyData.canLay0, PyData.depth]
  | n, .int b, h => by simp [D.toPy, PyData.canLay0, PyData.depth]
  | n, .str x, h => by simp only [plain_str] at h; exact ⟨h, by simp [D.toPy, PyData.depth]⟩
  | 0, .tup _, h => by simp [plainD] at h
  | 0, .lst _, h => by simp [plainD] at h
  | n + 1, .tup xs, h => by
    simp only [plain_tup, Bool.and_eq_true] at h
    have := plains_lay h.2
    simp only [D.toPy, PyData.canLay0, PyData.depth]
    exact ⟨this.1, by omega⟩
  | n + 1, .lst xs, h => by
    simp only [plain_lst, Bool.and_eq_true] at h
    have := plains_lay h.2
    simp only [D.toPy, PyData.canLay0, PyData.depth]
    exact ⟨this.1, by omega⟩
  | n, .dct _ _, h => by cases n <;> simp [plainD] at h
  | n, .set _, h => by cases n <;> simp [plainD] at h
  | n, .exc _ _, h => by cases n <;> simp [plainD] at h
  | n, .scr _, h => by cases n <;> simp [plainD] at h
theorem plains_lay : ∀ {n : Nat} {ds : List D}, plains n ds = true → PyData.canLayAll0 (D.toPys ds) = true ∧ PyData.depthAll (D.toPys ds) ≤ n + 1
  | n, [], h => by simp [D.toPys, PyData.canLayAll0, PyData.depthAll]
  | n, d :: ds, h => by
    simp only [plains, Bool.and_eq_true] at h
    have h1 := plain_lay h.1
    have h2 := plains_lay h.2
    simp only [D.toPys, PyData.canLayAll0, PyData.depthAll, Bool.and_eq_true]
    exact ⟨⟨h1.1, h2.1⟩, by omega⟩
end
theorem peq_plain {a b : D} {n : Nat} (hn : n ≤ 60) (ha : plainD n a = true) (hb : plainD n b = true) : peq [a, b] = some (.fz (.bl (a.toPy.eqv b.toPy))) := by
  obtain ⟨h1, h2⟩ := plain_lay ha
  obtain ⟨h3, h4⟩ := plain_lay hb
  show (if _ then _ else _) = _
  rw [if_pos]
  simp only [eqOk, h1, h3, Bool.and_self, Bool.true_and, decide_eq_true_eq]
  omega
theorem pne_plain {a b : D} {n : Nat} (hn : n ≤ 60) (ha : plainD n a = true) (hb : plainD n b = true) : pne [a, b] = some (.fz (.bl (!a.toPy.eqv b.toPy))) := by
  obtain ⟨h1, h2⟩ := plain_lay ha
  obtain ⟨h3, h4⟩ := plain_lay hb
  show (if _ then _ else _) = _
  rw [if_pos]
  simp only [eqOk, h1, h3, Bool.and_self, Bool.true_and, decide_eq_true_eq]
  omega
end PI

end

section
set_option maxRecDepth 100000
set_option maxHeartbeats 4000000
namespace K01
open PySem PySem.Spec PyProof.Rows L2 PI
def topS (i : Nat) : Stmt := PySem.Challenge.pw_queuedsums_k01_whole_what_stands_and_is.main.body.getD i (.Pass ⟨0, 0, 0, 0⟩)
abbrev st_tuple_of : Stmt := topS 4
abbrev N_tuple_of : List Str := ["thing", "part"]
abbrev st_is_sound_in : Stmt := topS 6
abbrev N_is_sound_in : List Str := ["history", "many", "deed"]
abbrev st_is_sound : Stmt := topS 7
abbrev N_is_sound : List Str := ["history"]
abbrev st_sure_history : Stmt := topS 8
abbrev N_sure_history : List Str := ["history", "own"]
abbrev st_puts : Stmt := topS 9
abbrev N_puts : List Str := ["word", "letter"]
abbrev st_outs : Stmt := topS 10
abbrev N_outs : List Str := ["many"]
abbrev st_behind : Stmt := topS 11
abbrev N_behind : List Str := ["mode", "word", "deed"]
abbrev st_standings_in : Stmt := topS 12
abbrev N_standings_in : List Str := ["mode", "history", "found", "deed"]
abbrev st_standings : Stmt := topS 13
abbrev N_standings : List Str := ["mode", "history"]
abbrev st_stands : Stmt := topS 14
abbrev N_stands : List Str := ["mode", "history"]
abbrev st_gone_in : Stmt := topS 15
abbrev N_gone_in : List Str := ["mode", "word"]
abbrev st_letters_out : Stmt := topS 16
abbrev N_letters_out : List Str := ["mode", "history", "own", "rows", "word", "deed"]
abbrev st_seen_in : Stmt := topS 17
abbrev N_seen_in : List Str := ["mode", "word", "shown"]
abbrev st_seen : Stmt := topS 18
abbrev N_seen : List Str := ["mode", "word", "shown"]
abbrev st_heard_along : Stmt := topS 19
abbrev N_heard_along : List Str := ["mode", "shown", "telling", "history", "deed", "own", "told", "rows", "found", "place", "heard"]
abbrev st__law_box : Stmt := topS 21
abbrev N__law_box : List Str := ["script", "k", "cell"]
abbrev st__law_take : Stmt := topS 22
abbrev N__law_take : List Str := ["urn", "low_so", "once", "far", "twice", "drawn"]
abbrev st__law_cells : Stmt := topS 23
abbrev N__law_cells : List Str := ["script", "top", "cells", "k", "cell", "at_so"]
abbrev st__law_same : Stmt := topS 24
abbrev N__law_same : List Str := ["got", "goal", "mine_so", "own"]
abbrev st__law_lists : Stmt := topS 25
abbrev N__law_lists : List Str := ["matter", "own"]
abbrev st__law_is_sound : Stmt := topS 26
abbrev N__law_is_sound : List Str := ["history", "many", "deed"]
abbrev st__law_rows : Stmt := topS 27
abbrev N__law_rows : List Str := ["mode", "history", "deed", "rows", "gone", "word", "k"]
abbrev st__law_seen : Stmt := topS 28
abbrev N__law_seen : List Str := ["mode", "word", "shown", "many"]
abbrev st__law_heard : Stmt := topS 29
abbrev N__law_heard : List Str := ["mode", "shown", "telling", "history", "rows", "gone", "found", "k", "place", "deed", "heard"]
abbrev st__law_history : Stmt := topS 30
abbrev N__law_history : List Str := ["tin", "letters", "most", "lap", "found", "many", "lean"]
abbrev st__law_telling : Stmt := topS 31
abbrev N__law_telling : List Str := ["tin", "letters", "found", "lap"]
abbrev st__law_told : Stmt := topS 32
abbrev N__law_told : List Str := ["mode", "shown", "telling", "history", "error"]
abbrev st__law_by_hand_right : Stmt := topS 33
abbrev N__law_by_hand_right : List Str := ["row"]
abbrev st__law_right : Stmt := topS 34
abbrev N__law_right : List Str := ["tin", "mode", "k", "bad", "letters", "shown", "history", "telling", "got", "more", "back", "rows", "gone", "deed", "own"]
abbrev st_law : Stmt := topS 35
abbrev N_law : List Str := ["script"]
/-! ### the tables -/
def fd_tuple_of : FD := { np := 1, nl := 2, pw := [], body := [.ite (.e (.pn (pisi [.list, .tuple]) [.var 0])) [.ret (.pn ptuple [.comp [1] (.nm 1) ikVal [.var 0] [] (.call 0 [false] [.var 1])])] [], .ret (.var 0)] }
def fd_is_sound_in : FD := { np := 1, nl := 3, pw := [], body := [.set 1 (.lit (.int 0)), .for_ (.nm 2) ikVal [.var 0] [.set 1 (.ite (.e (.pn peq [.pn pidx [.var 2, .lit (.int 0)], .lit (.str (Str.ofString "in"))])) (.pn padd [.var 1, .lit (.int 1)]) (.pn psub [.var 1, .lit (.int 1)])), .ite (.e (.pn plt [.var 1, .lit (.int 0)])) [.ret (.lit (.bl false))] []], .ret (.lit (.bl true))] }
def fd_is_sound : FD := { np := 1, nl := 1, pw := [], body := [.ret (.call 1 [false] [.call 0 [false] [.var 0]])] }
def fd_sure_history : FD := { np := 1, nl := 2, pw := [], body := [.set 1 (.call 0 [false] [.var 0]), .ite (.not (.e (.call 1 [false] [.var 1]))) [.rse "Unfit" []] [], .ret (.var 1)] }
def fd_puts : FD := { np := 1, nl := 2, pw := [], body := [.ret (.pn ptuple [.comp [1] (.nm 1) ikVal [.var 0] [] (.tup [.lit (.str (Str.ofString "in")), .var 1])])] }
def fd_outs : FD := { np := 1, nl := 1, pw := [], body := [.ret (.pn pmulX [.tup [.tup [.lit (.str (Str.ofString "out"))]], .var 0])] }
def fd_behind : FD := { np := 3, nl := 3, pw := [], body := [.ite (.e (.pn peq [.pn pidx [.var 2, .lit (.int 0)], .lit (.str (Str.ofString "in"))])) [.ret (.pn padd [.var 1, .tup [.pn pidx [.var 2, .lit (.int 1)]]])] [], .ret (.ite (.e (.pn peq [.var 0, .lit (.str (Str.ofString "queue"))])) (.sl (.var 1) [.lit (.int 1)] []) (.sl (.var 1) [] [.pn pneg [.lit (.int 1)]]))] }
def fd_standings_in : FD := { np := 2, nl := 4, pw := [], body := [.set 2 (.lst [.tup []]), .for_ (.nm 3) ikVal [.var 1] [.app 2 (.call 6 [false, false, false] [.var 0, .pn pidx [.var 2, .pn pneg [.lit (.int 1)]], .var 3])], .ret (.var 2)] }
def fd_standings : FD := { np := 2, nl := 2, pw := [], body := [.ret (.call 7 [false, false] [.var 0, .call 3 [false] [.var 1]])] }
def fd_stands : FD := { np := 2, nl := 2, pw := [], body := [.ret (.pn pidx [.call 8 [false, false] [.var 0, .var 1], .pn pneg [.lit (.int 1)]])] }
def fd_gone_in : FD := { np := 2, nl := 2, pw := [], body := [.ret (.ite (.e (.pn peq [.var 0, .lit (.str (Str.ofString "queue"))])) (.pn pidx [.var 1, .lit (.int 0)]) (.pn pidx [.var 1, .pn pneg [.lit (.int 1)]]))] }
def fd_letters_out : FD := { np := 2, nl := 6, pw := [], body := [.set 2 (.call 3 [false] [.var 1]), .set 3 (.call 7 [false, false] [.var 0, .var 2]), .ret (.pn ptuple [.comp [4, 5] (.tp [.nm 4, .nm 5]) ikZipX [.var 3, .var 2] [.e (.pn peq [.pn pidx [.var 5, .lit (.int 0)], .lit (.str (Str.ofString "out"))])] (.call 10 [false, false] [.var 0, .var 4])])] }
def fd_seen_in : FD := { np := 3, nl := 3, pw := [], body := [.ret (.ite (.e (.pn peq [.var 0, .lit (.str (Str.ofString "queue"))])) (.sl (.var 1) [] [.var 2]) (.sl (.var 1) [.pn pmax2 [.lit (.int 0), .pn psub [.pn plen [.var 1], .var 2]]] []))] }
def fd_seen : FD := { np := 3, nl := 3, pw := [], body := [.ret (.call 12 [false, false, false] [.var 0, .call 0 [false] [.var 1], .var 2])] }
def fd_heard_along : FD := { np := 4, nl := 11, pw := [], body := [.par 5 6 (.call 3 [false] [.var 3]) (.call 0 [false] [.var 2]), .for_ (.nm 4) ikVal [.var 5] [.ite (.and (.e (.pn peq [.pn pidx [.var 4, .lit (.int 0)], .lit (.str (Str.ofString "in"))])) (.e (.pn pgt [.pn pidx [.var 4, .lit (.int 1)], .pn plen [.var 6]]))) [.rse "NoPlace" [.pn pidx [.var 4, .lit (.int 1)]]] []], .par 7 8 (.call 7 [false, false] [.var 0, .var 5]) (.lst []), .for_ (.tp [.nm 9, .nm 4]) ikEnumX [.var 5] [.set 10 (.ite (.e (.pn peq [.pn pidx [.var 4, .lit (.int 0)], .lit (.str (Str.ofString "in"))])) (.var 4) (.tup [.lit (.str (Str.ofString "out")), .pn pidx [.var 6, .pn psub [.call 10 [false, false] [.var 0, .pn pidx [.var 7, .var 9]], .lit (.int 1)]]])), .app 8 (.tup [.var 10, .call 12 [false, false, false] [.var 0, .pn pidx [.var 7, .pn padd [.var 9, .lit (.int 1)]], .var 1]])], .ret (.var 8)] }
def fd__law_box : FD := { np := 2, nl := 3, pw := [], body := [.set 2 (.ite (.e (.pn plt [.var 1, .pn plen [.var 0]])) (.pn pidx [.var 0, .var 1]) (.lit (.int 0))), .ret (.lst [.pn pmulX [.pn pabs [.var 2], .pn pint [.pn pge [.pn pabs [.var 2], .pn ppow [.lit (.int 10), .lit (.int 18)]]]], .pn padd [.pn padd [.pn pmod [.pn pint [.var 2], .lit (.int 2305843009213693951)], .pn pmulX [.lit (.int 39373), .var 1]], .lit (.int 3184002)], .lit (.int 0)])] }
def st0__law_take : S := .ite (.e (.pn pgt [.pn pidx [.var 0, .lit (.int 0)], .lit (.int 0)])) [.set 5 (.pn pmod [.pn pint [.pn pidx [.var 0, .lit (.int 0)]], .var 1]), .sti 0 (.lit (.int 0)) (.pn pfdiv [.pn pidx [.var 0, .lit (.int 0)], .var 1]), .ret (.var 5)] []
def st1__law_take : S := .sti 0 (.lit (.int 2)) (.pn padd [.pn pidx [.var 0, .lit (.int 2)], .lit (.int 1)])
def st2__law_take : S := .set 2 (.pn pmod [.pn pint [.pn pmulX [.pn padd [.pn pidx [.var 0, .lit (.int 1)], .pn pmulX [.lit (.int 48271), .pn pidx [.var 0, .lit (.int 2)]]], .pn padd [.lit (.int 39373), .pn pidx [.var 0, .lit (.int 2)]]]], .lit (.int 2147483647)])
def st3__law_take : S := .set 3 (.pn padd [.pn pmod [.pn pint [.var 2], .lit (.int 40009)], .lit (.int 7)])
def st4__law_take : S := .set 4 (.pn pmod [.pn pint [.pn pmulX [.pn padd [.pn padd [.var 2, .pn pidx [.var 0, .lit (.int 2)]], .pn pfdiv [.pn pidx [.var 0, .lit (.int 1)], .lit (.int 1000003)]], .var 3]], .lit (.int 2147483629)])
def st5__law_take : S := .ret (.pn pmod [.pn pint [.pn pfdiv [.pn pmod [.pn pint [.pn padd [.pn pmulX [.var 4, .lit (.int 48271)], .var 2]], .lit (.int 2147483587)], .lit (.int 64)]], .var 1])
def fd__law_take : FD := { np := 2, nl := 6, pw := [0], body := [st0__law_take, st1__law_take, st2__law_take, st3__law_take, st4__law_take, st5__law_take] }
def fd__law_cells : FD := { np := 2, nl := 6, pw := [], body := [.set 2 (.or (.pn plist [.sl (.var 0) [] [.var 1]]) (.lst [.lit (.int 0)])), .for_ (.tp [.nm 3, .nm 4]) ikEnumX [.sl (.var 0) [.var 1] [.lit (.int 63)]] [.set 5 (.pn pmod [.pn pint [.var 3], .var 1]), .sti 2 (.var 5) (.pn padd [.pn pidx [.var 2, .var 5], .pn pmulX [.var 4, .pn padd [.var 3, .lit (.int 2)]]])], .ret (.var 2)] }
def fd__law_same : FD := { np := 2, nl := 4, pw := [], body := [.ite (.e (.pn (pisi [.list, .tuple]) [.var 1])) [.ite (.or (.e (.pn pne [.pn (pisi [.list]) [.var 0], .pn (pisi [.list]) [.var 1]])) (.e (.pn pne [.pn (pisi [.tuple]) [.var 0], .pn (pisi [.tuple]) [.var 1]]))) [.ret (.lit (.bl false))] [], .ret (.and (.pn peq [.pn plen [.var 0], .pn plen [.var 1]]) (.pn pall [.comp [2, 3] (.tp [.nm 2, .nm 3]) ikZipX [.var 0, .var 1] [] (.call 18 [false, false] [.var 2, .var 3])]))] [], .ite (.or (.e (.pn pisN [.var 1, .lit .non])) (.e (.pn (pisi [.bool, .str]) [.var 1]))) [.ret (.and (.pn peq [.var 0, .var 1]) (.and (.pn peq [.pn (pisi [.bool]) [.var 0], .pn (pisi [.bool]) [.var 1]]) (.pn peq [.pn pisN [.var 0, .lit .non], .pn pisN [.var 1, .lit .non]])))] [], .ret (.and (.pn (pisi [.int]) [.var 0]) (.and (.not (.pn (pisi [.bool]) [.var 0])) (.pn peq [.var 0, .var 1])))] }
def fd__law_lists : FD := { np := 1, nl := 2, pw := [], body := [.ret (.ite (.e (.pn (pisi [.list, .tuple]) [.var 0])) (.comp [1] (.nm 1) ikVal [.var 0] [] (.call 19 [false] [.var 1])) (.var 0))] }
def fd__law_is_sound : FD := { np := 1, nl := 3, pw := [], body := [.set 1 (.lit (.int 0)), .for_ (.nm 2) ikVal [.var 0] [.set 1 (.pn padd [.var 1, .ite (.e (.pn peq [.pn pidx [.var 2, .lit (.int 0)], .lit (.str (Str.ofString "in"))])) (.lit (.int 1)) (.pn pneg [.lit (.int 1)])]), .ite (.e (.pn plt [.var 1, .lit (.int 0)])) [.ret (.lit (.bl false))] []], .ret (.lit (.bl true))] }
def fd__law_rows : FD := { np := 2, nl := 7, pw := [], body := [.par 3 4 (.lst [.tup []]) (.lst []), .for_ (.nm 2) ikVal [.var 1] [.set 5 (.pn pidx [.var 3, .pn pneg [.lit (.int 1)]]), .ite (.e (.pn peq [.pn pidx [.var 2, .lit (.int 0)], .lit (.str (Str.ofString "in"))])) [.app 3 (.pn padd [.var 5, .tup [.pn pidx [.var 2, .lit (.int 1)]]])] [.set 6 (.ite (.e (.pn peq [.var 0, .lit (.str (Str.ofString "queue"))])) (.lit (.int 0)) (.pn psub [.pn plen [.var 5], .lit (.int 1)])), .app 4 (.pn pidx [.var 5, .var 6]), .app 3 (.pn padd [.sl (.var 5) [] [.var 6], .sl (.var 5) [.pn padd [.var 6, .lit (.int 1)]] []])]], .ret (.tup [.var 3, .pn ptuple [.var 4]])] }
def fd__law_seen : FD := { np := 3, nl := 4, pw := [], body := [.set 3 (.pn pmin2 [.var 2, .pn plen [.var 1]]), .ret (.ite (.e (.pn peq [.var 0, .lit (.str (Str.ofString "queue"))])) (.sl (.var 1) [] [.var 3]) (.sl (.var 1) [.pn psub [.pn plen [.var 1], .var 3]] []))] }
def fd__law_heard : FD := { np := 4, nl := 11, pw := [], body := [.unp [.nm 4, .nm 5] (.call 21 [false, false] [.var 0, .var 3]), .par 6 7 (.lst []) (.lit (.int 0)), .for_ (.tp [.nm 8, .nm 9]) ikEnumX [.var 3] [.set 10 (.var 9), .ite (.e (.pn peq [.pn pidx [.var 9, .lit (.int 0)], .lit (.str (Str.ofString "out"))])) [.par 10 7 (.tup [.lit (.str (Str.ofString "out")), .pn pidx [.var 2, .pn psub [.pn pidx [.var 5, .var 7], .lit (.int 1)]]]) (.pn padd [.var 7, .lit (.int 1)])] [], .app 6 (.tup [.var 10, .call 22 [false, false, false] [.var 0, .pn pidx [.var 4, .pn padd [.var 8, .lit (.int 1)]], .var 1]])], .ret (.var 6)] }
def fd__law_history : FD := { np := 3, nl := 7, pw := [0], body := [.par3 4 5 6 (.lst []) (.lit (.int 0)) (.pn padd [.lit (.int 1), .call 16 [true, false] [.var 0, .lit (.int 3)]]), .for_ (.nm 3) ikRange1 [.call 16 [true, false] [.var 0, .pn padd [.var 2, .lit (.int 1)]]] [.ite (.and (.e (.pn pgt [.var 5, .lit (.int 0)])) (.e (.pn plt [.call 16 [true, false] [.var 0, .lit (.int 4)], .var 6]))) [.app 4 (.tup [.lit (.str (Str.ofString "out"))]), .set 5 (.pn psub [.var 5, .lit (.int 1)])] [.app 4 (.tup [.lit (.str (Str.ofString "in")), .pn padd [.lit (.int 1), .call 16 [true, false] [.var 0, .var 1]]]), .set 5 (.pn padd [.var 5, .lit (.int 1)])]], .ret (.pn ptuple [.var 4])] }
def fd__law_telling : FD := { np := 2, nl := 4, pw := [0], body := [.set 2 (.lst [.lit (.int 0)]), .for_ (.nm 3) ikRange1 [.pn psub [.var 1, .lit (.int 1)]] [.app 2 (.call 16 [true, false] [.var 0, .pn padd [.pn pmax1 [.var 2], .lit (.int 2)]])], .ret (.pn ptuple [.var 2])] }
def fd__law_told : FD := { np := 4, nl := 5, pw := [], body := [.try_ [.ret (.call 14 [false, false, false, false] [.var 0, .var 1, .var 2, .var 3])] [{ cls := "Unfit", slot := some 4, act := .ret [.lit (.str (Str.ofString "unfit")), .lit (.bl true)] }, { cls := "NoPlace", slot := some 4, act := .ret [.lit (.str (Str.ofString "place")), .fld] }]] }
def fd__law_by_hand_right : FD := { np := 0, nl := 1, pw := [], body := [.set 0 (.tup [.tup [.lit (.str (Str.ofString "in")), .lit (.int 1)], .tup [.lit (.str (Str.ofString "in")), .lit (.int 2)], .tup [.lit (.str (Str.ofString "out"))], .tup [.lit (.str (Str.ofString "in")), .lit (.int 2)], .tup [.lit (.str (Str.ofString "out"))]]), .ret (.call 18 [false, false] [.lst [.call 9 [false, false] [.lit (.str (Str.ofString "queue")), .var 0], .call 9 [false, false] [.lit (.str (Str.ofString "pile")), .var 0], .call 11 [false, false] [.lit (.str (Str.ofString "pile")), .var 0], .call 13 [false, false, false] [.lit (.str (Str.ofString "pile")), .tup [.lit (.int 1), .lit (.int 2), .lit (.int 3)], .lit (.int 2)], .pn pidx [.pn pidx [.call 26 [false, false, false, false] [.lit (.str (Str.ofString "pile")), .lit (.int 0), .tup [.lit (.int 0), .lit (.int 1)], .var 0], .lit (.int 2)], .lit (.int 0)]], .lst [.tup [.lit (.int 2)], .tup [.lit (.int 1)], .tup [.lit (.int 2), .lit (.int 2)], .tup [.lit (.int 2), .lit (.int 3)], .tup [.lit (.str (Str.ofString "out")), .lit (.int 1)]]])] }
def st0__law_right : S := .unp [.nm 4, .nm 5] (.tup [.pn padd [.lit (.int 1), .call 16 [true, false] [.var 0, .lit (.int 4)]], .call 16 [true, false] [.var 0, .lit (.int 7)]])
def st1__law_right : S := .par 6 7 (.call 24 [true, false, false] [.var 0, .var 4, .lit (.int 58)]) (.call 25 [true, false] [.var 0, .var 4])
def st2__law_right : S := .for_ (.nm 1) ikVal [.tup [.lit (.str (Str.ofString "queue")), .lit (.str (Str.ofString "pile"))]] [.unp [.nm 11, .nm 12] (.call 21 [false, false] [.var 1, .var 6]), .set 8 (.lst [.call 8 [false, false] [.var 1, .call 19 [false] [.var 6]], .call 9 [false, false] [.var 1, .var 6], .call 11 [false, false] [.var 1, .var 6], .comp [14] (.nm 14) ikVal [.sl (.var 11) [.pn pneg [.lit (.int 4)]] []] [] (.call 13 [false, false, false] [.var 1, .var 14, .var 5])]), .ite (.not (.e (.call 18 [false, false] [.var 8, .lst [.var 11, .pn pidx [.var 11, .pn pneg [.lit (.int 1)]], .var 12, .comp [14] (.nm 14) ikVal [.sl (.var 11) [.pn pneg [.lit (.int 4)]] []] [] (.call 22 [false, false, false] [.var 1, .var 14, .var 5])]]))) [.ret (.lit (.bl false))] [], .ite (.not (.e (.call 18 [false, false] [.call 26 [false, false, false, false] [.var 1, .var 5, .call 19 [false] [.var 7], .var 6], .call 23 [false, false, false, false] [.var 1, .var 5, .var 7, .var 6]]))) [.ret (.lit (.bl false))] [], .set 9 (.comp [13] (.nm 13) ikVal [.var 6] [.and (.e (.pn peq [.pn pidx [.var 13, .lit (.int 0)], .lit (.str (Str.ofString "in"))])) (.e (.pn pgt [.pn pidx [.var 13, .lit (.int 1)], .lit (.int 1)]))] (.pn pidx [.var 13, .lit (.int 1)])), .ite (.and (.e (.pn pne [.var 9, .lst []])) (.not (.e (.call 18 [false, false] [.call 26 [false, false, false, false] [.var 1, .var 5, .tup [.lit (.int 0)], .var 6], .lst [.lit (.str (Str.ofString "place")), .pn pidx [.var 9, .lit (.int 0)]]])))) [.ret (.lit (.bl false))] [], .set 10 (.pn padd [.pn pidx [.var 11, .pn pneg [.lit (.int 1)]], .pn pmulX [.tup [.lit (.int 1)], .call 16 [true, false] [.var 0, .lit (.int 3)]]]), .ite (.not (.e (.call 18 [false, false] [.call 9 [false, false] [.var 1, .pn padd [.call 4 [false] [.var 10], .pn pmulX [.call 5 [false] [.lit (.int 1)], .pn plen [.var 10]]]], .tup []]))) [.ret (.lit (.bl false))] []]
def st3__law_right : S := .set 2 (.call 16 [true, false] [.var 0, .pn padd [.pn plen [.var 6], .lit (.int 1)]])
def st4__law_right : S := .set 3 (.pn padd [.pn padd [.sl (.var 6) [] [.var 2], .pn pmulX [.tup [.tup [.lit (.str (Str.ofString "out"))]], .pn padd [.lit (.int 1), .call 16 [true, false] [.var 0, .lit (.int 9)]]]], .sl (.var 6) [.var 2] []])
def st5__law_right : S := .ret (.call 18 [false, false] [.lst [.call 2 [false] [.var 6], .call 2 [false] [.call 19 [false] [.var 3]], .pn peq [.call 26 [false, false, false, false] [.lit (.str (Str.ofString "pile")), .var 5, .var 7, .var 3], .lst [.lit (.str (Str.ofString "unfit")), .lit (.bl true)]]], .lst [.lit (.bl true), .call 20 [false] [.var 3], .not (.call 20 [false] [.var 3])]])
def fd__law_right : FD := { np := 1, nl := 15, pw := [0], body := [st0__law_right, st1__law_right, st2__law_right, st3__law_right, st4__law_right, st5__law_right] }
def fd_law : FD := { np := 1, nl := 1, pw := [], body := [.ite (.not (.e (.call 27 [] []))) [.ret (.lit (.bl false))] [], .ret (.call 28 [true] [.call 15 [false, false] [.call 17 [false, false] [.var 0, .lit (.int 1)], .lit (.int 0)]])] }
def tbl : List FD := [fd_tuple_of, fd_is_sound_in, fd_is_sound, fd_sure_history, fd_puts, fd_outs, fd_behind, fd_standings_in, fd_standings, fd_stands, fd_gone_in, fd_letters_out, fd_seen_in, fd_seen, fd_heard_along, fd__law_box, fd__law_take, fd__law_cells, fd__law_same, fd__law_lists, fd__law_is_sound, fd__law_rows, fd__law_seen, fd__law_heard, fd__law_history, fd__law_telling, fd__law_told, fd__law_by_hand_right, fd__law_right, fd_law]
def names : List Str := ["tuple_of", "is_sound_in", "is_sound", "sure_history", "puts", "outs", "behind", "standings_in", "standings", "stands", "gone_in", "letters_out", "seen_in", "seen", "heard_along", "_law_box", "_law_take", "_law_cells", "_law_same", "_law_lists", "_law_is_sound", "_law_rows", "_law_seen", "_law_heard", "_law_history", "_law_telling", "_law_told", "_law_by_hand_right", "_law_right", "law"]

end K01

end

section
set_option maxHeartbeats 4000000
namespace K01
open PySem PySem.Spec PyProof.Rows L2 PI
/-! ### the derivations -/
structure Bt (mg : Str → Option Value) : Prop where
  b_ValueError : mg "ValueError" = none
  b_abs : mg "abs" = none
  b_all : mg "all" = none
  b_bool : mg "bool" = none
  b_enumerate : mg "enumerate" = none
  b_int : mg "int" = none
  b_isinstance : mg "isinstance" = none
  b_len : mg "len" = none
  b_list : mg "list" = none
  b_max : mg "max" = none
  b_min : mg "min" = none
  b_range : mg "range" = none
  b_str : mg "str" = none
  b_tuple : mg "tuple" = none
  b_zip : mg "zip" = none
structure Xs (K : PySem.W.Frag) (mg : Str → Option Value) (XC : Str → Value → Prop) : Prop where
  e_NoPlace : Ex1 K mg "NoPlace" (fieldOf "NoPlace") (He.ga K "NoPlace") (He.ma K (He.ga K "NoPlace") "__init__") lkBase "LookupError.__new__"
  x_NoPlace : XC "NoPlace" (.ref (He.ga K "NoPlace"))
  h_NoPlace : ∀ x cls, XC x cls → PySem.W.exmOne K cls (.ref (He.ga K "NoPlace")) = some (decide ("NoPlace" = x))
  u_NoPlace : ∀ cls, XC "NoPlace" cls → cls = (.ref (He.ga K "NoPlace"))
  e_Unfit : Ex0 K mg "Unfit" (He.ga K "Unfit")
  x_Unfit : XC "Unfit" (.ref (He.ga K "Unfit"))
  h_Unfit : ∀ x cls, XC x cls → PySem.W.exmOne K cls (.ref (He.ga K "Unfit")) = some (decide ("Unfit" = x))
  u_Unfit : ∀ cls, XC "Unfit" cls → cls = (.ref (He.ga K "Unfit"))
section
variable {P : Program} {w : World} {K : PySem.W.Frag} {mg : Str → Option Value} {base : Heap} {XC : Str → Value → Prop} {C : Calls} {k : Nat}
theorem sc_tuple_of : FnScope N_tuple_of ["thing"] (defScope st_tuple_of) := ⟨rfl, rfl, rfl, by decide +kernel, rfl, by decide +kernel, by decide +kernel⟩
theorem ok_tuple_of (B : Bt mg) (Z : Xs K mg XC) (G : FnCx P w K mg base XC C k names) (fa : Addr) (cdv : Value) (A : Around) (outer : List Env) (s : Shared) (H : Hp) (E : XK) (hr : Room k (A.deeper (envOfC "tuple_of" (defScope st_tuple_of) s.heap.objs.size fa cdv))) :
    PSs (cxOf (L2.CX P w) P w K mg base N_tuple_of "tuple_of" (defScope st_tuple_of) fa cdv A outer s H E) (defBody st_tuple_of) (tSs K XC C (fun cls d _ H => E cls d H) fd_tuple_of.pw fd_tuple_of.body) := by
  have sc := sc_tuple_of
  have tk : Takes (cxOf (L2.CX P w) P w K mg base N_tuple_of "tuple_of" (defScope st_tuple_of) fa cdv A outer s H E) (fun cls d _ H => E cls d H) := takes_of rfl rfl rfl rfl
  exact (ss_cons (ss_if (st_e (se_o (se_isiT (cs := [.list, .tuple]) (by rfl) B.b_isinstance (se_varO (pv 0)) (pcls_cons (k := .list) (pcl (by rfl) B.b_list (by decide +kernel)) (pcls_cons (k := .tuple) (pcl (by rfl) B.b_tuple (by decide +kernel)) pcls_nil))))) (ss_cons (ss_ret (se_callTy pc_tuple (by rfl) B.b_tuple (by decide +kernel) (pas_cons (se_o (se_comp (own := [("part", 1)]) (tg := .nm 1) rfl sc.nd (si_val (se_var (pv 0))) (blkOk_by (N := N_tuple_of) (sc := (defScope st_tuple_of)) (by decide +kernel)) (fun _ _ _ _ _ => (sg_nm (pg_name (i := 1) sc.nd rfl (by first | exact Or.inl rfl | exact Or.inr rfl)))) (fun _ _ _ _ _ => sts_nil) (fun _ _ _ _ _ => (se_call (G.at_ 0 "tuple_of" rfl) hr (by rfl) takes0 (pra_cons (se_var (pv 1)) pra_nil))) (by decide))) pas_nil)))
    ss_nil) ss_nil)
    (ss_cons (ss_retV (pv 0))
    ss_nil))
theorem sc_is_sound_in : FnScope N_is_sound_in ["history"] (defScope st_is_sound_in) := ⟨rfl, rfl, rfl, by decide +kernel, rfl, by decide +kernel, by decide +kernel⟩
theorem ok_is_sound_in (B : Bt mg) (Z : Xs K mg XC) (G : FnCx P w K mg base XC C k names) (fa : Addr) (cdv : Value) (A : Around) (outer : List Env) (s : Shared) (H : Hp) (E : XK) (hr : Room k (A.deeper (envOfC "is_sound_in" (defScope st_is_sound_in) s.heap.objs.size fa cdv))) :
    PSs (cxOf (L2.CX P w) P w K mg base N_is_sound_in "is_sound_in" (defScope st_is_sound_in) fa cdv A outer s H E) (defBody st_is_sound_in) (tSs K XC C (fun cls d _ H => E cls d H) fd_is_sound_in.pw fd_is_sound_in.body) := by
  have sc := sc_is_sound_in
  have tk : Takes (cxOf (L2.CX P w) P w K mg base N_is_sound_in "is_sound_in" (defScope st_is_sound_in) fa cdv A outer s H E) (fun cls d _ H => E cls d H) := takes_of rfl rfl rfl rfl
  exact (ss_cons (ss_set (i := 1) sc.nd rfl (by first | exact Or.inl rfl | exact Or.inr rfl) se_int)
    (ss_cons (ss_for (passes_of rfl) rfl (si_val (se_var (pv 0))) (sg_nm (pg_name (i := 2) sc.nd rfl (by first | exact Or.inl rfl | exact Or.inr rfl))) (ss_cons (ss_set (i := 1) sc.nd rfl (by first | exact Or.inl rfl | exact Or.inr rfl) (se_ite (st_cmp (po_eq hr.units) hb_eq (se_o (se_idx (se_varO (pv 2)) (se_o se_int))) (se_o se_str)) (se_bin po_add (se_varO (pv 1)) (se_o se_int)) (se_bin po_sub (se_varO (pv 1)) (se_o se_int))))
    (ss_cons (ss_if (st_cmp po_lt hb_lt (se_varO (pv 1)) (se_o se_int)) (ss_cons (ss_ret se_bl)
    ss_nil) ss_nil)
    ss_nil)))
    (ss_cons (ss_ret se_bl)
    ss_nil)))
theorem sc_is_sound : FnScope N_is_sound ["history"] (defScope st_is_sound) := ⟨rfl, rfl, rfl, by decide +kernel, rfl, by decide +kernel, by decide +kernel⟩
theorem ok_is_sound (B : Bt mg) (Z : Xs K mg XC) (G : FnCx P w K mg base XC C k names) (fa : Addr) (cdv : Value) (A : Around) (outer : List Env) (s : Shared) (H : Hp) (E : XK) (hr : Room k (A.deeper (envOfC "is_sound" (defScope st_is_sound) s.heap.objs.size fa cdv))) :
    PSs (cxOf (L2.CX P w) P w K mg base N_is_sound "is_sound" (defScope st_is_sound) fa cdv A outer s H E) (defBody st_is_sound) (tSs K XC C (fun cls d _ H => E cls d H) fd_is_sound.pw fd_is_sound.body) := by
  have sc := sc_is_sound
  have tk : Takes (cxOf (L2.CX P w) P w K mg base N_is_sound "is_sound" (defScope st_is_sound) fa cdv A outer s H E) (fun cls d _ H => E cls d H) := takes_of rfl rfl rfl rfl
  exact (ss_cons (ss_ret (se_call (G.at_ 1 "is_sound_in" rfl) hr (by rfl) tk (pra_cons (se_call (G.at_ 0 "tuple_of" rfl) hr (by rfl) tk (pra_cons (se_var (pv 0)) pra_nil)) pra_nil)))
    ss_nil)
theorem sc_sure_history : FnScope N_sure_history ["history"] (defScope st_sure_history) := ⟨rfl, rfl, rfl, by decide +kernel, rfl, by decide +kernel, by decide +kernel⟩
theorem ok_sure_history (B : Bt mg) (Z : Xs K mg XC) (G : FnCx P w K mg base XC C k names) (fa : Addr) (cdv : Value) (A : Around) (outer : List Env) (s : Shared) (H : Hp) (E : XK) (hr : Room k (A.deeper (envOfC "sure_history" (defScope st_sure_history) s.heap.objs.size fa cdv))) :
    PSs (cxOf (L2.CX P w) P w K mg base N_sure_history "sure_history" (defScope st_sure_history) fa cdv A outer s H E) (defBody st_sure_history) (tSs K XC C (fun cls d _ H => E cls d H) fd_sure_history.pw fd_sure_history.body) := by
  have sc := sc_sure_history
  have tk : Takes (cxOf (L2.CX P w) P w K mg base N_sure_history "sure_history" (defScope st_sure_history) fa cdv A outer s H E) (fun cls d _ H => E cls d H) := takes_of rfl rfl rfl rfl
  exact (ss_cons (ss_set (i := 1) sc.nd rfl (by first | exact Or.inl rfl | exact Or.inr rfl) (se_call (G.at_ 0 "tuple_of" rfl) hr (by rfl) tk (pra_cons (se_var (pv 0)) pra_nil)))
    (ss_cons (ss_if (st_not (st_e (se_o (se_call (G.at_ 1 "is_sound_in" rfl) hr (by rfl) tk (pra_cons (se_var (pv 1)) pra_nil))))) (ss_cons (rs0 Z.e_Unfit Z.x_Unfit rfl tk (by rfl))
    ss_nil) ss_nil)
    (ss_cons (ss_retV (pv 1))
    ss_nil)))
theorem sc_puts : FnScope N_puts ["word"] (defScope st_puts) := ⟨rfl, rfl, rfl, by decide +kernel, rfl, by decide +kernel, by decide +kernel⟩
theorem ok_puts (B : Bt mg) (Z : Xs K mg XC) (G : FnCx P w K mg base XC C k names) (fa : Addr) (cdv : Value) (A : Around) (outer : List Env) (s : Shared) (H : Hp) (E : XK) (hr : Room k (A.deeper (envOfC "puts" (defScope st_puts) s.heap.objs.size fa cdv))) :
    PSs (cxOf (L2.CX P w) P w K mg base N_puts "puts" (defScope st_puts) fa cdv A outer s H E) (defBody st_puts) (tSs K XC C (fun cls d _ H => E cls d H) fd_puts.pw fd_puts.body) := by
  have sc := sc_puts
  have tk : Takes (cxOf (L2.CX P w) P w K mg base N_puts "puts" (defScope st_puts) fa cdv A outer s H E) (fun cls d _ H => E cls d H) := takes_of rfl rfl rfl rfl
  exact (ss_cons (ss_ret (se_callTy pc_tuple (by rfl) B.b_tuple (by decide +kernel) (pas_cons (se_o (se_comp (own := [("letter", 1)]) (tg := .nm 1) rfl sc.nd (si_val (se_var (pv 0))) (blkOk_by (N := N_puts) (sc := (defScope st_puts)) (by decide +kernel)) (fun _ _ _ _ _ => (sg_nm (pg_name (i := 1) sc.nd rfl (by first | exact Or.inl rfl | exact Or.inr rfl)))) (fun _ _ _ _ _ => sts_nil) (fun _ _ _ _ _ => (se_tup (pfs_cons se_str (pfs_cons (se_var (pv 1)) pfs_nil)))) (by decide))) pas_nil)))
    ss_nil)
theorem sc_outs : FnScope N_outs ["many"] (defScope st_outs) := ⟨rfl, rfl, rfl, by decide +kernel, rfl, by decide +kernel, by decide +kernel⟩
theorem ok_outs (B : Bt mg) (Z : Xs K mg XC) (G : FnCx P w K mg base XC C k names) (fa : Addr) (cdv : Value) (A : Around) (outer : List Env) (s : Shared) (H : Hp) (E : XK) (hr : Room k (A.deeper (envOfC "outs" (defScope st_outs) s.heap.objs.size fa cdv))) :
    PSs (cxOf (L2.CX P w) P w K mg base N_outs "outs" (defScope st_outs) fa cdv A outer s H E) (defBody st_outs) (tSs K XC C (fun cls d _ H => E cls d H) fd_outs.pw fd_outs.body) := by
  have sc := sc_outs
  have tk : Takes (cxOf (L2.CX P w) P w K mg base N_outs "outs" (defScope st_outs) fa cdv A outer s H E) (fun cls d _ H => E cls d H) := takes_of rfl rfl rfl rfl
  exact (ss_cons (ss_ret (se_bin po_mulX (se_o (se_tup (pfs_cons (se_tup (pfs_cons se_str pfs_nil)) pfs_nil))) (se_varO (pv 0))))
    ss_nil)
theorem sc_behind : FnScope N_behind ["mode", "word", "deed"] (defScope st_behind) := ⟨rfl, rfl, rfl, by decide +kernel, rfl, by decide +kernel, by decide +kernel⟩
theorem ok_behind (B : Bt mg) (Z : Xs K mg XC) (G : FnCx P w K mg base XC C k names) (fa : Addr) (cdv : Value) (A : Around) (outer : List Env) (s : Shared) (H : Hp) (E : XK) (hr : Room k (A.deeper (envOfC "behind" (defScope st_behind) s.heap.objs.size fa cdv))) :
    PSs (cxOf (L2.CX P w) P w K mg base N_behind "behind" (defScope st_behind) fa cdv A outer s H E) (defBody st_behind) (tSs K XC C (fun cls d _ H => E cls d H) fd_behind.pw fd_behind.body) := by
  have sc := sc_behind
  have tk : Takes (cxOf (L2.CX P w) P w K mg base N_behind "behind" (defScope st_behind) fa cdv A outer s H E) (fun cls d _ H => E cls d H) := takes_of rfl rfl rfl rfl
  exact (ss_cons (ss_if (st_cmp (po_eq hr.units) hb_eq (se_o (se_idx (se_varO (pv 2)) (se_o se_int))) (se_o se_str)) (ss_cons (ss_ret (se_bin po_add (se_varO (pv 1)) (se_o (se_tup (pfs_cons (se_idx (se_varO (pv 2)) (se_o se_int)) pfs_nil)))))
    ss_nil) ss_nil)
    (ss_cons (ss_ret (se_ite (st_cmp (po_eq hr.units) hb_eq (se_varO (pv 0)) (se_o se_str)) (se_sl (se_varO (pv 1)) (sp_some se_int) sp_none) (se_sl (se_varO (pv 1)) sp_none (sp_some (se_un po_neg (se_o se_int))))))
    ss_nil))
theorem sc_standings_in : FnScope N_standings_in ["mode", "history"] (defScope st_standings_in) := ⟨rfl, rfl, rfl, by decide +kernel, rfl, by decide +kernel, by decide +kernel⟩
theorem ok_standings_in (B : Bt mg) (Z : Xs K mg XC) (G : FnCx P w K mg base XC C k names) (fa : Addr) (cdv : Value) (A : Around) (outer : List Env) (s : Shared) (H : Hp) (E : XK) (hr : Room k (A.deeper (envOfC "standings_in" (defScope st_standings_in) s.heap.objs.size fa cdv))) :
    PSs (cxOf (L2.CX P w) P w K mg base N_standings_in "standings_in" (defScope st_standings_in) fa cdv A outer s H E) (defBody st_standings_in) (tSs K XC C (fun cls d _ H => E cls d H) fd_standings_in.pw fd_standings_in.body) := by
  have sc := sc_standings_in
  have tk : Takes (cxOf (L2.CX P w) P w K mg base N_standings_in "standings_in" (defScope st_standings_in) fa cdv A outer s H E) (fun cls d _ H => E cls d H) := takes_of rfl rfl rfl rfl
  exact (ss_cons (ss_set (i := 2) sc.nd rfl (by first | exact Or.inl rfl | exact Or.inr rfl) (se_lst (pfs_cons (se_tup pfs_nil) pfs_nil)))
    (ss_cons (ss_for (passes_of rfl) rfl (si_val (se_var (pv 1))) (sg_nm (pg_name (i := 3) sc.nd rfl (by first | exact Or.inl rfl | exact Or.inr rfl))) (ss_cons (ss_app (i := 2) (pv 2) (se_call (G.at_ 6 "behind" rfl) hr (by rfl) tk (pra_cons (se_var (pv 0)) (pra_cons (se_idx (se_varO (pv 2)) (se_o (se_un po_neg (se_o se_int)))) (pra_cons (se_var (pv 3)) pra_nil)))) (fun a b => ps_expr (pe_bm PySem.F.plainAttrs_list PySem.F.slot_list_append PySem.F.type_list_append mt_append a b)))
    ss_nil))
    (ss_cons (ss_retV (pv 2))
    ss_nil)))
theorem sc_standings : FnScope N_standings ["mode", "history"] (defScope st_standings) := ⟨rfl, rfl, rfl, by decide +kernel, rfl, by decide +kernel, by decide +kernel⟩
theorem ok_standings (B : Bt mg) (Z : Xs K mg XC) (G : FnCx P w K mg base XC C k names) (fa : Addr) (cdv : Value) (A : Around) (outer : List Env) (s : Shared) (H : Hp) (E : XK) (hr : Room k (A.deeper (envOfC "standings" (defScope st_standings) s.heap.objs.size fa cdv))) :
    PSs (cxOf (L2.CX P w) P w K mg base N_standings "standings" (defScope st_standings) fa cdv A outer s H E) (defBody st_standings) (tSs K XC C (fun cls d _ H => E cls d H) fd_standings.pw fd_standings.body) := by
  have sc := sc_standings
  have tk : Takes (cxOf (L2.CX P w) P w K mg base N_standings "standings" (defScope st_standings) fa cdv A outer s H E) (fun cls d _ H => E cls d H) := takes_of rfl rfl rfl rfl
  exact (ss_cons (ss_ret (se_call (G.at_ 7 "standings_in" rfl) hr (by rfl) tk (pra_cons (se_var (pv 0)) (pra_cons (se_call (G.at_ 3 "sure_history" rfl) hr (by rfl) tk (pra_cons (se_var (pv 1)) pra_nil)) pra_nil))))
    ss_nil)
theorem sc_stands : FnScope N_stands ["mode", "history"] (defScope st_stands) := ⟨rfl, rfl, rfl, by decide +kernel, rfl, by decide +kernel, by decide +kernel⟩
theorem ok_stands (B : Bt mg) (Z : Xs K mg XC) (G : FnCx P w K mg base XC C k names) (fa : Addr) (cdv : Value) (A : Around) (outer : List Env) (s : Shared) (H : Hp) (E : XK) (hr : Room k (A.deeper (envOfC "stands" (defScope st_stands) s.heap.objs.size fa cdv))) :
    PSs (cxOf (L2.CX P w) P w K mg base N_stands "stands" (defScope st_stands) fa cdv A outer s H E) (defBody st_stands) (tSs K XC C (fun cls d _ H => E cls d H) fd_stands.pw fd_stands.body) := by
  have sc := sc_stands
  have tk : Takes (cxOf (L2.CX P w) P w K mg base N_stands "stands" (defScope st_stands) fa cdv A outer s H E) (fun cls d _ H => E cls d H) := takes_of rfl rfl rfl rfl
  exact (ss_cons (ss_ret (se_idx (se_o (se_call (G.at_ 8 "standings" rfl) hr (by rfl) tk (pra_cons (se_var (pv 0)) (pra_cons (se_var (pv 1)) pra_nil)))) (se_o (se_un po_neg (se_o se_int)))))
    ss_nil)
theorem sc_gone_in : FnScope N_gone_in ["mode", "word"] (defScope st_gone_in) := ⟨rfl, rfl, rfl, by decide +kernel, rfl, by decide +kernel, by decide +kernel⟩
theorem ok_gone_in (B : Bt mg) (Z : Xs K mg XC) (G : FnCx P w K mg base XC C k names) (fa : Addr) (cdv : Value) (A : Around) (outer : List Env) (s : Shared) (H : Hp) (E : XK) (hr : Room k (A.deeper (envOfC "gone_in" (defScope st_gone_in) s.heap.objs.size fa cdv))) :
    PSs (cxOf (L2.CX P w) P w K mg base N_gone_in "gone_in" (defScope st_gone_in) fa cdv A outer s H E) (defBody st_gone_in) (tSs K XC C (fun cls d _ H => E cls d H) fd_gone_in.pw fd_gone_in.body) := by
  have sc := sc_gone_in
  have tk : Takes (cxOf (L2.CX P w) P w K mg base N_gone_in "gone_in" (defScope st_gone_in) fa cdv A outer s H E) (fun cls d _ H => E cls d H) := takes_of rfl rfl rfl rfl
  exact (ss_cons (ss_ret (se_ite (st_cmp (po_eq hr.units) hb_eq (se_varO (pv 0)) (se_o se_str)) (se_idx (se_varO (pv 1)) (se_o se_int)) (se_idx (se_varO (pv 1)) (se_o (se_un po_neg (se_o se_int))))))
    ss_nil)
theorem sc_letters_out : FnScope N_letters_out ["mode", "history"] (defScope st_letters_out) := ⟨rfl, rfl, rfl, by decide +kernel, rfl, by decide +kernel, by decide +kernel⟩
theorem ok_letters_out (B : Bt mg) (Z : Xs K mg XC) (G : FnCx P w K mg base XC C k names) (fa : Addr) (cdv : Value) (A : Around) (outer : List Env) (s : Shared) (H : Hp) (E : XK) (hr : Room k (A.deeper (envOfC "letters_out" (defScope st_letters_out) s.heap.objs.size fa cdv))) :
    PSs (cxOf (L2.CX P w) P w K mg base N_letters_out "letters_out" (defScope st_letters_out) fa cdv A outer s H E) (defBody st_letters_out) (tSs K XC C (fun cls d _ H => E cls d H) fd_letters_out.pw fd_letters_out.body) := by
  have sc := sc_letters_out
  have tk : Takes (cxOf (L2.CX P w) P w K mg base N_letters_out "letters_out" (defScope st_letters_out) fa cdv A outer s H E) (fun cls d _ H => E cls d H) := takes_of rfl rfl rfl rfl
  exact (ss_cons (ss_set (i := 2) sc.nd rfl (by first | exact Or.inl rfl | exact Or.inr rfl) (se_call (G.at_ 3 "sure_history" rfl) hr (by rfl) tk (pra_cons (se_var (pv 1)) pra_nil)))
    (ss_cons (ss_set (i := 3) sc.nd rfl (by first | exact Or.inl rfl | exact Or.inr rfl) (se_call (G.at_ 7 "standings_in" rfl) hr (by rfl) tk (pra_cons (se_var (pv 0)) (pra_cons (se_var (pv 2)) pra_nil))))
    (ss_cons (ss_ret (se_callTy pc_tuple (by rfl) B.b_tuple (by decide +kernel) (pas_cons (se_o (se_comp (own := [("word", 4), ("deed", 5)]) (tg := .tp [.nm 4, .nm 5]) rfl sc.nd (si_zipX (by rfl) B.b_zip (pfs_cons (se_var (pv 3)) (pfs_cons (se_var (pv 2)) pfs_nil))) (blkOk_by (N := N_letters_out) (sc := (defScope st_letters_out)) (by decide +kernel)) (fun _ _ _ _ _ => (sg_tp rfl (sgs_cons (sg_nm (pg_name (i := 4) sc.nd rfl (by first | exact Or.inl rfl | exact Or.inr rfl))) (sgs_cons (sg_nm (pg_name (i := 5) sc.nd rfl (by first | exact Or.inl rfl | exact Or.inr rfl))) sgs_nil)))) (fun _ _ _ _ _ => (sts_one (st_cmp (po_eq hr.units) hb_eq (se_o (se_idx (se_varO (pv 5)) (se_o se_int))) (se_o se_str)))) (fun _ _ _ _ _ => (se_call (G.at_ 10 "gone_in" rfl) hr (by rfl) takes0 (pra_cons (se_var (pv 0)) (pra_cons (se_var (pv 4)) pra_nil)))) (by decide))) pas_nil)))
    ss_nil)))
theorem sc_seen_in : FnScope N_seen_in ["mode", "word", "shown"] (defScope st_seen_in) := ⟨rfl, rfl, rfl, by decide +kernel, rfl, by decide +kernel, by decide +kernel⟩
theorem ok_seen_in (B : Bt mg) (Z : Xs K mg XC) (G : FnCx P w K mg base XC C k names) (fa : Addr) (cdv : Value) (A : Around) (outer : List Env) (s : Shared) (H : Hp) (E : XK) (hr : Room k (A.deeper (envOfC "seen_in" (defScope st_seen_in) s.heap.objs.size fa cdv))) :
    PSs (cxOf (L2.CX P w) P w K mg base N_seen_in "seen_in" (defScope st_seen_in) fa cdv A outer s H E) (defBody st_seen_in) (tSs K XC C (fun cls d _ H => E cls d H) fd_seen_in.pw fd_seen_in.body) := by
  have sc := sc_seen_in
  have tk : Takes (cxOf (L2.CX P w) P w K mg base N_seen_in "seen_in" (defScope st_seen_in) fa cdv A outer s H E) (fun cls d _ H => E cls d H) := takes_of rfl rfl rfl rfl
  exact (ss_cons (ss_ret (se_ite (st_cmp (po_eq hr.units) hb_eq (se_varO (pv 0)) (se_o se_str)) (se_sl (se_varO (pv 1)) sp_none (sp_some (se_var (pv 2)))) (se_sl (se_varO (pv 1)) (sp_some (se_callB (pc_max2 rfl) (by rfl) B.b_max (by decide +kernel) (pas_cons (se_o se_int) (pas_cons (se_o (se_bin po_sub (se_o (se_callB pc_len (by rfl) B.b_len (by decide +kernel) (pas_cons (se_varO (pv 1)) pas_nil))) (se_varO (pv 2)))) pas_nil)))) sp_none)))
    ss_nil)
theorem sc_seen : FnScope N_seen ["mode", "word", "shown"] (defScope st_seen) := ⟨rfl, rfl, rfl, by decide +kernel, rfl, by decide +kernel, by decide +kernel⟩
theorem ok_seen (B : Bt mg) (Z : Xs K mg XC) (G : FnCx P w K mg base XC C k names) (fa : Addr) (cdv : Value) (A : Around) (outer : List Env) (s : Shared) (H : Hp) (E : XK) (hr : Room k (A.deeper (envOfC "seen" (defScope st_seen) s.heap.objs.size fa cdv))) :
    PSs (cxOf (L2.CX P w) P w K mg base N_seen "seen" (defScope st_seen) fa cdv A outer s H E) (defBody st_seen) (tSs K XC C (fun cls d _ H => E cls d H) fd_seen.pw fd_seen.body) := by
  have sc := sc_seen
  have tk : Takes (cxOf (L2.CX P w) P w K mg base N_seen "seen" (defScope st_seen) fa cdv A outer s H E) (fun cls d _ H => E cls d H) := takes_of rfl rfl rfl rfl
  exact (ss_cons (ss_ret (se_call (G.at_ 12 "seen_in" rfl) hr (by rfl) tk (pra_cons (se_var (pv 0)) (pra_cons (se_call (G.at_ 0 "tuple_of" rfl) hr (by rfl) tk (pra_cons (se_var (pv 1)) pra_nil)) (pra_cons (se_var (pv 2)) pra_nil)))))
    ss_nil)
theorem sc_heard_along : FnScope N_heard_along ["mode", "shown", "telling", "history"] (defScope st_heard_along) := ⟨rfl, rfl, rfl, by decide +kernel, rfl, by decide +kernel, by decide +kernel⟩
theorem ok_heard_along (B : Bt mg) (Z : Xs K mg XC) (G : FnCx P w K mg base XC C k names) (fa : Addr) (cdv : Value) (A : Around) (outer : List Env) (s : Shared) (H : Hp) (E : XK) (hr : Room k (A.deeper (envOfC "heard_along" (defScope st_heard_along) s.heap.objs.size fa cdv))) :
    PSs (cxOf (L2.CX P w) P w K mg base N_heard_along "heard_along" (defScope st_heard_along) fa cdv A outer s H E) (defBody st_heard_along) (tSs K XC C (fun cls d _ H => E cls d H) fd_heard_along.pw fd_heard_along.body) := by
  have sc := sc_heard_along
  have tk : Takes (cxOf (L2.CX P w) P w K mg base N_heard_along "heard_along" (defScope st_heard_along) fa cdv A outer s H E) (fun cls d _ H => E cls d H) := takes_of rfl rfl rfl rfl
  exact (ss_cons (ss_par (i := 5) (j := 6) (D0 := True) (fun _ h => ps_par rfl sc.nd rfl rfl (by decide) rfl rfl h (by rfl)) (se_call (G.at_ 3 "sure_history" rfl) hr (by rfl) tk (pra_cons (se_var (pv 3)) pra_nil)) (se_call (G.at_ 0 "tuple_of" rfl) hr (by rfl) tk (pra_cons (se_var (pv 2)) pra_nil)))
    (ss_cons (ss_for (passes_of rfl) rfl (si_val (se_var (pv 5))) (sg_nm (pg_name (i := 4) sc.nd rfl (by first | exact Or.inl rfl | exact Or.inr rfl))) (ss_cons (ss_if (PW.pt (sw_and (st_cmp (po_eq hr.units) hb_eq (se_o (se_idx (se_varO (pv 4)) (se_o se_int))) (se_o se_str)) (sw_and1 (st_cmp po_gt hb_gt (se_o (se_idx (se_varO (pv 4)) (se_o se_int))) (se_o (se_callB pc_len (by rfl) B.b_len (by decide +kernel) (pas_cons (se_varO (pv 6)) pas_nil))))))) (ss_cons (rs1 Z.e_NoPlace Z.x_NoPlace rfl tk hr (by rfl) (pfs_cons (se_idx (se_varO (pv 4)) (se_o se_int)) pfs_nil))
    ss_nil) ss_nil)
    ss_nil))
    (ss_cons (ss_par (i := 7) (j := 8) (D0 := True) (fun _ h => ps_par rfl sc.nd rfl rfl (by decide) rfl rfl h (by rfl)) (se_call (G.at_ 7 "standings_in" rfl) hr (by rfl) tk (pra_cons (se_var (pv 0)) (pra_cons (se_var (pv 5)) pra_nil))) (se_lst pfs_nil))
    (ss_cons (ss_for (passes_of rfl) rfl (si_enumX (by rfl) B.b_enumerate (pfs_cons (se_var (pv 5)) pfs_nil)) (sg_tp rfl (sgs_cons (sg_nm (pg_name (i := 9) sc.nd rfl (by first | exact Or.inl rfl | exact Or.inr rfl))) (sgs_cons (sg_nm (pg_name (i := 4) sc.nd rfl (by first | exact Or.inl rfl | exact Or.inr rfl))) sgs_nil))) (ss_cons (ss_set (i := 10) sc.nd rfl (by first | exact Or.inl rfl | exact Or.inr rfl) (se_ite (st_cmp (po_eq hr.units) hb_eq (se_o (se_idx (se_varO (pv 4)) (se_o se_int))) (se_o se_str)) (se_var (pv 4)) (se_tup (pfs_cons se_str (pfs_cons (se_idx (se_varO (pv 6)) (se_o (se_bin po_sub (se_o (se_call (G.at_ 10 "gone_in" rfl) hr (by rfl) tk (pra_cons (se_var (pv 0)) (pra_cons (se_idx (se_varO (pv 7)) (se_varO (pv 9))) pra_nil)))) (se_o se_int)))) pfs_nil)))))
    (ss_cons (ss_app (i := 8) (pv 8) (se_tup (pfs_cons (se_var (pv 10)) (pfs_cons (se_call (G.at_ 12 "seen_in" rfl) hr (by rfl) tk (pra_cons (se_var (pv 0)) (pra_cons (se_idx (se_varO (pv 7)) (se_o (se_bin po_add (se_varO (pv 9)) (se_o se_int)))) (pra_cons (se_var (pv 1)) pra_nil)))) pfs_nil))) (fun a b => ps_expr (pe_bm PySem.F.plainAttrs_list PySem.F.slot_list_append PySem.F.type_list_append mt_append a b)))
    ss_nil)))
    (ss_cons (ss_retV (pv 8))
    ss_nil)))))
theorem sc__law_box : FnScope N__law_box ["script", "k"] (defScope st__law_box) := ⟨rfl, rfl, rfl, by decide +kernel, rfl, by decide +kernel, by decide +kernel⟩
theorem ok__law_box (B : Bt mg) (Z : Xs K mg XC) (G : FnCx P w K mg base XC C k names) (fa : Addr) (cdv : Value) (A : Around) (outer : List Env) (s : Shared) (H : Hp) (E : XK) (hr : Room k (A.deeper (envOfC "_law_box" (defScope st__law_box) s.heap.objs.size fa cdv))) :
    PSs (cxOf (L2.CX P w) P w K mg base N__law_box "_law_box" (defScope st__law_box) fa cdv A outer s H E) (defBody st__law_box) (tSs K XC C (fun cls d _ H => E cls d H) fd__law_box.pw fd__law_box.body) := by
  have sc := sc__law_box
  have tk : Takes (cxOf (L2.CX P w) P w K mg base N__law_box "_law_box" (defScope st__law_box) fa cdv A outer s H E) (fun cls d _ H => E cls d H) := takes_of rfl rfl rfl rfl
  exact (ss_cons (ss_set (i := 2) sc.nd rfl (by first | exact Or.inl rfl | exact Or.inr rfl) (se_ite (st_cmp po_lt hb_lt (se_varO (pv 1)) (se_o (se_callB pc_len (by rfl) B.b_len (by decide +kernel) (pas_cons (se_varO (pv 0)) pas_nil)))) (se_idx (se_varO (pv 0)) (se_varO (pv 1))) se_int))
    (ss_cons (ss_ret (se_lst (pfs_cons (se_bin po_mulX (se_o (se_callB pc_abs (by rfl) B.b_abs (by decide +kernel) (pas_cons (se_varO (pv 2)) pas_nil))) (se_o (se_callTy pc_int (by rfl) B.b_int (by decide +kernel) (pas_cons (se_o (se_cmp po_ge (se_o (se_callB pc_abs (by rfl) B.b_abs (by decide +kernel) (pas_cons (se_varO (pv 2)) pas_nil))) (se_o (se_bin po_pow (se_o se_int) (se_o se_int))))) pas_nil)))) (pfs_cons (se_bin po_add (se_o (se_bin po_add (se_o (se_bin po_mod (se_o (se_callTy pc_int (by rfl) B.b_int (by decide +kernel) (pas_cons (se_varO (pv 2)) pas_nil))) (se_o se_int))) (se_o (se_bin po_mulX (se_o se_int) (se_varO (pv 1)))))) (se_o se_int)) (pfs_cons se_int pfs_nil)))))
    ss_nil))
theorem sc__law_take : FnScope N__law_take ["urn", "low_so"] (defScope st__law_take) := ⟨rfl, rfl, rfl, by decide +kernel, rfl, by decide +kernel, by decide +kernel⟩
theorem ok__law_take (B : Bt mg) (Z : Xs K mg XC) (G : FnCx P w K mg base XC C k names) (fa : Addr) (cdv : Value) (A : Around) (outer : List Env) (s : Shared) (H : Hp) (E : XK) (hr : Room k (A.deeper (envOfC "_law_take" (defScope st__law_take) s.heap.objs.size fa cdv))) :
    PSs (cxOf (L2.CX P w) P w K mg base N__law_take "_law_take" (defScope st__law_take) fa cdv A outer s H E) (defBody st__law_take) (tSs K XC C (fun cls d _ H => E cls d H) fd__law_take.pw fd__law_take.body) := by
  have sc := sc__law_take
  have tk : Takes (cxOf (L2.CX P w) P w K mg base N__law_take "_law_take" (defScope st__law_take) fa cdv A outer s H E) (fun cls d _ H => E cls d H) := takes_of rfl rfl rfl rfl
  exact (ss_cons (ss_if (st_cmp po_gt hb_gt (se_o (se_idx (se_varO (pv 0)) (se_o se_int))) (se_o se_int)) (ss_cons (ss_set (i := 5) sc.nd rfl (by first | exact Or.inl rfl | exact Or.inr rfl) (se_bin po_mod (se_o (se_callTy pc_int (by rfl) B.b_int (by decide +kernel) (pas_cons (se_o (se_idx (se_varO (pv 0)) (se_o se_int))) pas_nil))) (se_varO (pv 1))))
    (ss_cons (ss_sti (i := 0) (pv 0) se_int (se_bin po_fdiv (se_o (se_idx (se_varO (pv 0)) (se_o se_int))) (se_varO (pv 1))) (fun a b => ps_asg a b) (fun a b => pg_sub a b set_list))
    (ss_cons (ss_retV (pv 5))
    ss_nil))) ss_nil)
    (ss_cons (ss_sti (i := 0) (pv 0) se_int (se_bin po_add (se_o (se_idx (se_varO (pv 0)) (se_o se_int))) (se_o se_int)) (fun a b => ps_asg a b) (fun a b => pg_sub a b set_list))
    (ss_cons (ss_set (i := 2) sc.nd rfl (by first | exact Or.inl rfl | exact Or.inr rfl) (se_bin po_mod (se_o (se_callTy pc_int (by rfl) B.b_int (by decide +kernel) (pas_cons (se_o (se_bin po_mulX (se_o (se_bin po_add (se_o (se_idx (se_varO (pv 0)) (se_o se_int))) (se_o (se_bin po_mulX (se_o se_int) (se_o (se_idx (se_varO (pv 0)) (se_o se_int))))))) (se_o (se_bin po_add (se_o se_int) (se_o (se_idx (se_varO (pv 0)) (se_o se_int))))))) pas_nil))) (se_o se_int)))
    (ss_cons (ss_set (i := 3) sc.nd rfl (by first | exact Or.inl rfl | exact Or.inr rfl) (se_bin po_add (se_o (se_bin po_mod (se_o (se_callTy pc_int (by rfl) B.b_int (by decide +kernel) (pas_cons (se_varO (pv 2)) pas_nil))) (se_o se_int))) (se_o se_int)))
    (ss_cons (ss_set (i := 4) sc.nd rfl (by first | exact Or.inl rfl | exact Or.inr rfl) (se_bin po_mod (se_o (se_callTy pc_int (by rfl) B.b_int (by decide +kernel) (pas_cons (se_o (se_bin po_mulX (se_o (se_bin po_add (se_o (se_bin po_add (se_varO (pv 2)) (se_o (se_idx (se_varO (pv 0)) (se_o se_int))))) (se_o (se_bin po_fdiv (se_o (se_idx (se_varO (pv 0)) (se_o se_int))) (se_o se_int))))) (se_varO (pv 3)))) pas_nil))) (se_o se_int)))
    (ss_cons (ss_ret (se_bin po_mod (se_o (se_callTy pc_int (by rfl) B.b_int (by decide +kernel) (pas_cons (se_o (se_bin po_fdiv (se_o (se_bin po_mod (se_o (se_callTy pc_int (by rfl) B.b_int (by decide +kernel) (pas_cons (se_o (se_bin po_add (se_o (se_bin po_mulX (se_varO (pv 4)) (se_o se_int))) (se_varO (pv 2)))) pas_nil))) (se_o se_int))) (se_o se_int))) pas_nil))) (se_varO (pv 1))))
    ss_nil))))))
theorem sc__law_cells : FnScope N__law_cells ["script", "top"] (defScope st__law_cells) := ⟨rfl, rfl, rfl, by decide +kernel, rfl, by decide +kernel, by decide +kernel⟩
theorem ok__law_cells (B : Bt mg) (Z : Xs K mg XC) (G : FnCx P w K mg base XC C k names) (fa : Addr) (cdv : Value) (A : Around) (outer : List Env) (s : Shared) (H : Hp) (E : XK) (hr : Room k (A.deeper (envOfC "_law_cells" (defScope st__law_cells) s.heap.objs.size fa cdv))) :
    PSs (cxOf (L2.CX P w) P w K mg base N__law_cells "_law_cells" (defScope st__law_cells) fa cdv A outer s H E) (defBody st__law_cells) (tSs K XC C (fun cls d _ H => E cls d H) fd__law_cells.pw fd__law_cells.body) := by
  have sc := sc__law_cells
  have tk : Takes (cxOf (L2.CX P w) P w K mg base N__law_cells "_law_cells" (defScope st__law_cells) fa cdv A outer s H E) (fun cls d _ H => E cls d H) := takes_of rfl rfl rfl rfl
  exact (ss_cons (ss_set (i := 2) sc.nd rfl (by first | exact Or.inl rfl | exact Or.inr rfl) (se_or (se_callTy pc_list (by rfl) B.b_list (by decide +kernel) (pas_cons (se_o (se_sl (se_varO (pv 0)) sp_none (sp_some (se_var (pv 1))))) pas_nil)) (se_one (se_lst (pfs_cons se_int pfs_nil)))))
    (ss_cons (ss_for (passes_of rfl) rfl (si_enumX (by rfl) B.b_enumerate (pfs_cons (se_sl (se_varO (pv 0)) (sp_some (se_var (pv 1))) (sp_some se_int)) pfs_nil)) (sg_tp rfl (sgs_cons (sg_nm (pg_name (i := 3) sc.nd rfl (by first | exact Or.inl rfl | exact Or.inr rfl))) (sgs_cons (sg_nm (pg_name (i := 4) sc.nd rfl (by first | exact Or.inl rfl | exact Or.inr rfl))) sgs_nil))) (ss_cons (ss_set (i := 5) sc.nd rfl (by first | exact Or.inl rfl | exact Or.inr rfl) (se_bin po_mod (se_o (se_callTy pc_int (by rfl) B.b_int (by decide +kernel) (pas_cons (se_varO (pv 3)) pas_nil))) (se_varO (pv 1))))
    (ss_cons (ss_sti (i := 2) (pv 2) (se_var (pv 5)) (se_bin po_add (se_o (se_idx (se_varO (pv 2)) (se_varO (pv 5)))) (se_o (se_bin po_mulX (se_varO (pv 4)) (se_o (se_bin po_add (se_varO (pv 3)) (se_o se_int)))))) (fun a b => ps_asg a b) (fun a b => pg_sub a b set_list))
    ss_nil)))
    (ss_cons (ss_retV (pv 2))
    ss_nil)))
theorem sc__law_same : FnScope N__law_same ["got", "goal"] (defScope st__law_same) := ⟨rfl, rfl, rfl, by decide +kernel, rfl, by decide +kernel, by decide +kernel⟩
theorem ok__law_same (B : Bt mg) (Z : Xs K mg XC) (G : FnCx P w K mg base XC C k names) (fa : Addr) (cdv : Value) (A : Around) (outer : List Env) (s : Shared) (H : Hp) (E : XK) (hr : Room k (A.deeper (envOfC "_law_same" (defScope st__law_same) s.heap.objs.size fa cdv))) :
    PSs (cxOf (L2.CX P w) P w K mg base N__law_same "_law_same" (defScope st__law_same) fa cdv A outer s H E) (defBody st__law_same) (tSs K XC C (fun cls d _ H => E cls d H) fd__law_same.pw fd__law_same.body) := by
  have sc := sc__law_same
  have tk : Takes (cxOf (L2.CX P w) P w K mg base N__law_same "_law_same" (defScope st__law_same) fa cdv A outer s H E) (fun cls d _ H => E cls d H) := takes_of rfl rfl rfl rfl
  exact (ss_cons (ss_if (st_e (se_o (se_isiT (cs := [.list, .tuple]) (by rfl) B.b_isinstance (se_varO (pv 1)) (pcls_cons (k := .list) (pcl (by rfl) B.b_list (by decide +kernel)) (pcls_cons (k := .tuple) (pcl (by rfl) B.b_tuple (by decide +kernel)) pcls_nil))))) (ss_cons (ss_if (PW.pt (sw_or (st_cmp (po_ne hr.units) hb_ne (se_o (se_isi1 (k := .list) (rest := []) (by rfl) B.b_isinstance (se_varO (pv 0)) (pcl (by rfl) B.b_list (by decide +kernel)))) (se_o (se_isi1 (k := .list) (rest := []) (by rfl) B.b_isinstance (se_varO (pv 1)) (pcl (by rfl) B.b_list (by decide +kernel))))) (sw_or1 (st_cmp (po_ne hr.units) hb_ne (se_o (se_isi1 (k := .tuple) (rest := []) (by rfl) B.b_isinstance (se_varO (pv 0)) (pcl (by rfl) B.b_tuple (by decide +kernel)))) (se_o (se_isi1 (k := .tuple) (rest := []) (by rfl) B.b_isinstance (se_varO (pv 1)) (pcl (by rfl) B.b_tuple (by decide +kernel)))))))) (ss_cons (ss_ret se_bl)
    ss_nil) ss_nil)
    (ss_cons (ss_ret (se_and (se_cmp (po_eq hr.units) (se_o (se_callB pc_len (by rfl) B.b_len (by decide +kernel) (pas_cons (se_varO (pv 0)) pas_nil))) (se_o (se_callB pc_len (by rfl) B.b_len (by decide +kernel) (pas_cons (se_varO (pv 1)) pas_nil)))) (se_one (se_callB (pc_all rfl) (by rfl) B.b_all (by decide +kernel) (pas_cons (se_o (se_comp (own := [("mine_so", 2), ("own", 3)]) (tg := .tp [.nm 2, .nm 3]) rfl sc.nd (si_zipX (by rfl) B.b_zip (pfs_cons (se_var (pv 0)) (pfs_cons (se_var (pv 1)) pfs_nil))) (blkOk_by (N := N__law_same) (sc := (defScope st__law_same)) (by decide +kernel)) (fun _ _ _ _ _ => (sg_tp rfl (sgs_cons (sg_nm (pg_name (i := 2) sc.nd rfl (by first | exact Or.inl rfl | exact Or.inr rfl))) (sgs_cons (sg_nm (pg_name (i := 3) sc.nd rfl (by first | exact Or.inl rfl | exact Or.inr rfl))) sgs_nil)))) (fun _ _ _ _ _ => sts_nil) (fun _ _ _ _ _ => (se_call (G.at_ 18 "_law_same" rfl) hr (by rfl) takes0 (pra_cons (se_var (pv 2)) (pra_cons (se_var (pv 3)) pra_nil)))) (by decide))) pas_nil)))))
    ss_nil)) ss_nil)
    (ss_cons (ss_if (PW.pt (sw_or (st_cmp po_isN hb_isN (se_varO (pv 1)) (se_o se_non)) (sw_or1 (st_e (se_o (se_isiT (cs := [.bool, .str]) (by rfl) B.b_isinstance (se_varO (pv 1)) (pcls_cons (k := .bool) (pcl (by rfl) B.b_bool (by decide +kernel)) (pcls_cons (k := .str) (pcl (by rfl) B.b_str (by decide +kernel)) pcls_nil)))))))) (ss_cons (ss_ret (se_and (se_cmp (po_eq hr.units) (se_varO (pv 0)) (se_varO (pv 1))) (se_and (se_cmp (po_eq hr.units) (se_o (se_isi1 (k := .bool) (rest := []) (by rfl) B.b_isinstance (se_varO (pv 0)) (pcl (by rfl) B.b_bool (by decide +kernel)))) (se_o (se_isi1 (k := .bool) (rest := []) (by rfl) B.b_isinstance (se_varO (pv 1)) (pcl (by rfl) B.b_bool (by decide +kernel))))) (se_one (se_cmp (po_eq hr.units) (se_o (se_cmp po_isN (se_varO (pv 0)) (se_o se_non))) (se_o (se_cmp po_isN (se_varO (pv 1)) (se_o se_non))))))))
    ss_nil) ss_nil)
    (ss_cons (ss_ret (se_and (se_isi1 (k := .int) (rest := []) (by rfl) B.b_isinstance (se_varO (pv 0)) (pcl (by rfl) B.b_int (by decide +kernel))) (se_and (se_not (se_o (se_isi1 (k := .bool) (rest := []) (by rfl) B.b_isinstance (se_varO (pv 0)) (pcl (by rfl) B.b_bool (by decide +kernel))))) (se_one (se_cmp (po_eq hr.units) (se_varO (pv 0)) (se_varO (pv 1)))))))
    ss_nil)))
theorem sc__law_lists : FnScope N__law_lists ["matter"] (defScope st__law_lists) := ⟨rfl, rfl, rfl, by decide +kernel, rfl, by decide +kernel, by decide +kernel⟩
theorem ok__law_lists (B : Bt mg) (Z : Xs K mg XC) (G : FnCx P w K mg base XC C k names) (fa : Addr) (cdv : Value) (A : Around) (outer : List Env) (s : Shared) (H : Hp) (E : XK) (hr : Room k (A.deeper (envOfC "_law_lists" (defScope st__law_lists) s.heap.objs.size fa cdv))) :
    PSs (cxOf (L2.CX P w) P w K mg base N__law_lists "_law_lists" (defScope st__law_lists) fa cdv A outer s H E) (defBody st__law_lists) (tSs K XC C (fun cls d _ H => E cls d H) fd__law_lists.pw fd__law_lists.body) := by
  have sc := sc__law_lists
  have tk : Takes (cxOf (L2.CX P w) P w K mg base N__law_lists "_law_lists" (defScope st__law_lists) fa cdv A outer s H E) (fun cls d _ H => E cls d H) := takes_of rfl rfl rfl rfl
  exact (ss_cons (ss_ret (se_ite (st_e (se_o (se_isiT (cs := [.list, .tuple]) (by rfl) B.b_isinstance (se_varO (pv 0)) (pcls_cons (k := .list) (pcl (by rfl) B.b_list (by decide +kernel)) (pcls_cons (k := .tuple) (pcl (by rfl) B.b_tuple (by decide +kernel)) pcls_nil))))) (se_comp (own := [("own", 1)]) (tg := .nm 1) rfl sc.nd (si_val (se_var (pv 0))) (blkOk_by (N := N__law_lists) (sc := (defScope st__law_lists)) (by decide +kernel)) (fun _ _ _ _ _ => (sg_nm (pg_name (i := 1) sc.nd rfl (by first | exact Or.inl rfl | exact Or.inr rfl)))) (fun _ _ _ _ _ => sts_nil) (fun _ _ _ _ _ => (se_call (G.at_ 19 "_law_lists" rfl) hr (by rfl) takes0 (pra_cons (se_var (pv 1)) pra_nil))) (by decide)) (se_var (pv 0))))
    ss_nil)
theorem sc__law_is_sound : FnScope N__law_is_sound ["history"] (defScope st__law_is_sound) := ⟨rfl, rfl, rfl, by decide +kernel, rfl, by decide +kernel, by decide +kernel⟩
theorem ok__law_is_sound (B : Bt mg) (Z : Xs K mg XC) (G : FnCx P w K mg base XC C k names) (fa : Addr) (cdv : Value) (A : Around) (outer : List Env) (s : Shared) (H : Hp) (E : XK) (hr : Room k (A.deeper (envOfC "_law_is_sound" (defScope st__law_is_sound) s.heap.objs.size fa cdv))) :
    PSs (cxOf (L2.CX P w) P w K mg base N__law_is_sound "_law_is_sound" (defScope st__law_is_sound) fa cdv A outer s H E) (defBody st__law_is_sound) (tSs K XC C (fun cls d _ H => E cls d H) fd__law_is_sound.pw fd__law_is_sound.body) := by
  have sc := sc__law_is_sound
  have tk : Takes (cxOf (L2.CX P w) P w K mg base N__law_is_sound "_law_is_sound" (defScope st__law_is_sound) fa cdv A outer s H E) (fun cls d _ H => E cls d H) := takes_of rfl rfl rfl rfl
  exact (ss_cons (ss_set (i := 1) sc.nd rfl (by first | exact Or.inl rfl | exact Or.inr rfl) se_int)
    (ss_cons (ss_for (passes_of rfl) rfl (si_val (se_var (pv 0))) (sg_nm (pg_name (i := 2) sc.nd rfl (by first | exact Or.inl rfl | exact Or.inr rfl))) (ss_cons (ss_set (i := 1) sc.nd rfl (by first | exact Or.inl rfl | exact Or.inr rfl) (se_bin po_add (se_varO (pv 1)) (se_o (se_ite (st_cmp (po_eq hr.units) hb_eq (se_o (se_idx (se_varO (pv 2)) (se_o se_int))) (se_o se_str)) se_int (se_un po_neg (se_o se_int))))))
    (ss_cons (ss_if (st_cmp po_lt hb_lt (se_varO (pv 1)) (se_o se_int)) (ss_cons (ss_ret se_bl)
    ss_nil) ss_nil)
    ss_nil)))
    (ss_cons (ss_ret se_bl)
    ss_nil)))
theorem sc__law_rows : FnScope N__law_rows ["mode", "history"] (defScope st__law_rows) := ⟨rfl, rfl, rfl, by decide +kernel, rfl, by decide +kernel, by decide +kernel⟩
theorem ok__law_rows (B : Bt mg) (Z : Xs K mg XC) (G : FnCx P w K mg base XC C k names) (fa : Addr) (cdv : Value) (A : Around) (outer : List Env) (s : Shared) (H : Hp) (E : XK) (hr : Room k (A.deeper (envOfC "_law_rows" (defScope st__law_rows) s.heap.objs.size fa cdv))) :
    PSs (cxOf (L2.CX P w) P w K mg base N__law_rows "_law_rows" (defScope st__law_rows) fa cdv A outer s H E) (defBody st__law_rows) (tSs K XC C (fun cls d _ H => E cls d H) fd__law_rows.pw fd__law_rows.body) := by
  have sc := sc__law_rows
  have tk : Takes (cxOf (L2.CX P w) P w K mg base N__law_rows "_law_rows" (defScope st__law_rows) fa cdv A outer s H E) (fun cls d _ H => E cls d H) := takes_of rfl rfl rfl rfl
  exact (ss_cons (ss_par (i := 3) (j := 4) (D0 := True) (fun _ h => ps_par rfl sc.nd rfl rfl (by decide) rfl rfl h (by rfl)) (se_lst (pfs_cons (se_tup pfs_nil) pfs_nil)) (se_lst pfs_nil))
    (ss_cons (ss_for (passes_of rfl) rfl (si_val (se_var (pv 1))) (sg_nm (pg_name (i := 2) sc.nd rfl (by first | exact Or.inl rfl | exact Or.inr rfl))) (ss_cons (ss_set (i := 5) sc.nd rfl (by first | exact Or.inl rfl | exact Or.inr rfl) (se_idx (se_varO (pv 3)) (se_o (se_un po_neg (se_o se_int)))))
    (ss_cons (ss_if (st_cmp (po_eq hr.units) hb_eq (se_o (se_idx (se_varO (pv 2)) (se_o se_int))) (se_o se_str)) (ss_cons (ss_app (i := 3) (pv 3) (se_bin po_add (se_varO (pv 5)) (se_o (se_tup (pfs_cons (se_idx (se_varO (pv 2)) (se_o se_int)) pfs_nil)))) (fun a b => ps_expr (pe_bm PySem.F.plainAttrs_list PySem.F.slot_list_append PySem.F.type_list_append mt_append a b)))
    ss_nil) (ss_cons (ss_set (i := 6) sc.nd rfl (by first | exact Or.inl rfl | exact Or.inr rfl) (se_ite (st_cmp (po_eq hr.units) hb_eq (se_varO (pv 0)) (se_o se_str)) se_int (se_bin po_sub (se_o (se_callB pc_len (by rfl) B.b_len (by decide +kernel) (pas_cons (se_varO (pv 5)) pas_nil))) (se_o se_int))))
    (ss_cons (ss_app (i := 4) (pv 4) (se_idx (se_varO (pv 5)) (se_varO (pv 6))) (fun a b => ps_expr (pe_bm PySem.F.plainAttrs_list PySem.F.slot_list_append PySem.F.type_list_append mt_append a b)))
    (ss_cons (ss_app (i := 3) (pv 3) (se_bin po_add (se_o (se_sl (se_varO (pv 5)) sp_none (sp_some (se_var (pv 6))))) (se_o (se_sl (se_varO (pv 5)) (sp_some (se_bin po_add (se_varO (pv 6)) (se_o se_int))) sp_none))) (fun a b => ps_expr (pe_bm PySem.F.plainAttrs_list PySem.F.slot_list_append PySem.F.type_list_append mt_append a b)))
    ss_nil))))
    ss_nil)))
    (ss_cons (ss_ret (se_tup (pfs_cons (se_var (pv 3)) (pfs_cons (se_callTy pc_tuple (by rfl) B.b_tuple (by decide +kernel) (pas_cons (se_varO (pv 4)) pas_nil)) pfs_nil))))
    ss_nil)))
theorem sc__law_seen : FnScope N__law_seen ["mode", "word", "shown"] (defScope st__law_seen) := ⟨rfl, rfl, rfl, by decide +kernel, rfl, by decide +kernel, by decide +kernel⟩
theorem ok__law_seen (B : Bt mg) (Z : Xs K mg XC) (G : FnCx P w K mg base XC C k names) (fa : Addr) (cdv : Value) (A : Around) (outer : List Env) (s : Shared) (H : Hp) (E : XK) (hr : Room k (A.deeper (envOfC "_law_seen" (defScope st__law_seen) s.heap.objs.size fa cdv))) :
    PSs (cxOf (L2.CX P w) P w K mg base N__law_seen "_law_seen" (defScope st__law_seen) fa cdv A outer s H E) (defBody st__law_seen) (tSs K XC C (fun cls d _ H => E cls d H) fd__law_seen.pw fd__law_seen.body) := by
  have sc := sc__law_seen
  have tk : Takes (cxOf (L2.CX P w) P w K mg base N__law_seen "_law_seen" (defScope st__law_seen) fa cdv A outer s H E) (fun cls d _ H => E cls d H) := takes_of rfl rfl rfl rfl
  exact (ss_cons (ss_set (i := 3) sc.nd rfl (by first | exact Or.inl rfl | exact Or.inr rfl) (se_callB (pc_min2 rfl) (by rfl) B.b_min (by decide +kernel) (pas_cons (se_varO (pv 2)) (pas_cons (se_o (se_callB pc_len (by rfl) B.b_len (by decide +kernel) (pas_cons (se_varO (pv 1)) pas_nil))) pas_nil))))
    (ss_cons (ss_ret (se_ite (st_cmp (po_eq hr.units) hb_eq (se_varO (pv 0)) (se_o se_str)) (se_sl (se_varO (pv 1)) sp_none (sp_some (se_var (pv 3)))) (se_sl (se_varO (pv 1)) (sp_some (se_bin po_sub (se_o (se_callB pc_len (by rfl) B.b_len (by decide +kernel) (pas_cons (se_varO (pv 1)) pas_nil))) (se_varO (pv 3)))) sp_none)))
    ss_nil))
theorem sc__law_heard : FnScope N__law_heard ["mode", "shown", "telling", "history"] (defScope st__law_heard) := ⟨rfl, rfl, rfl, by decide +kernel, rfl, by decide +kernel, by decide +kernel⟩
theorem ok__law_heard (B : Bt mg) (Z : Xs K mg XC) (G : FnCx P w K mg base XC C k names) (fa : Addr) (cdv : Value) (A : Around) (outer : List Env) (s : Shared) (H : Hp) (E : XK) (hr : Room k (A.deeper (envOfC "_law_heard" (defScope st__law_heard) s.heap.objs.size fa cdv))) :
    PSs (cxOf (L2.CX P w) P w K mg base N__law_heard "_law_heard" (defScope st__law_heard) fa cdv A outer s H E) (defBody st__law_heard) (tSs K XC C (fun cls d _ H => E cls d H) fd__law_heard.pw fd__law_heard.body) := by
  have sc := sc__law_heard
  have tk : Takes (cxOf (L2.CX P w) P w K mg base N__law_heard "_law_heard" (defScope st__law_heard) fa cdv A outer s H E) (fun cls d _ H => E cls d H) := takes_of rfl rfl rfl rfl
  exact (ss_cons (ss_unp (se_call (G.at_ 21 "_law_rows" rfl) hr (by rfl) tk (pra_cons (se_var (pv 0)) (pra_cons (se_var (pv 3)) pra_nil))) (sg_tp rfl (sgs_cons (sg_nm (pg_name (i := 4) sc.nd rfl (by first | exact Or.inl rfl | exact Or.inr rfl))) (sgs_cons (sg_nm (pg_name (i := 5) sc.nd rfl (by first | exact Or.inl rfl | exact Or.inr rfl))) sgs_nil))))
    (ss_cons (ss_par (i := 6) (j := 7) (D0 := True) (fun _ h => ps_par rfl sc.nd rfl rfl (by decide) rfl rfl h (by rfl)) (se_lst pfs_nil) se_int)
    (ss_cons (ss_for (passes_of rfl) rfl (si_enumX (by rfl) B.b_enumerate (pfs_cons (se_var (pv 3)) pfs_nil)) (sg_tp rfl (sgs_cons (sg_nm (pg_name (i := 8) sc.nd rfl (by first | exact Or.inl rfl | exact Or.inr rfl))) (sgs_cons (sg_nm (pg_name (i := 9) sc.nd rfl (by first | exact Or.inl rfl | exact Or.inr rfl))) sgs_nil))) (ss_cons (ss_set (i := 10) sc.nd rfl (by first | exact Or.inl rfl | exact Or.inr rfl) (se_var (pv 9)))
    (ss_cons (ss_if (st_cmp (po_eq hr.units) hb_eq (se_o (se_idx (se_varO (pv 9)) (se_o se_int))) (se_o se_str)) (ss_cons (ss_par (i := 10) (j := 7) (D0 := True) (fun _ h => ps_par rfl sc.nd rfl rfl (by decide) rfl rfl h (by rfl)) (se_tup (pfs_cons se_str (pfs_cons (se_idx (se_varO (pv 2)) (se_o (se_bin po_sub (se_o (se_idx (se_varO (pv 5)) (se_varO (pv 7)))) (se_o se_int)))) pfs_nil))) (se_bin po_add (se_varO (pv 7)) (se_o se_int)))
    ss_nil) ss_nil)
    (ss_cons (ss_app (i := 6) (pv 6) (se_tup (pfs_cons (se_var (pv 10)) (pfs_cons (se_call (G.at_ 22 "_law_seen" rfl) hr (by rfl) tk (pra_cons (se_var (pv 0)) (pra_cons (se_idx (se_varO (pv 4)) (se_o (se_bin po_add (se_varO (pv 8)) (se_o se_int)))) (pra_cons (se_var (pv 1)) pra_nil)))) pfs_nil))) (fun a b => ps_expr (pe_bm PySem.F.plainAttrs_list PySem.F.slot_list_append PySem.F.type_list_append mt_append a b)))
    ss_nil))))
    (ss_cons (ss_retV (pv 6))
    ss_nil))))
theorem sc__law_history : FnScope N__law_history ["tin", "letters", "most"] (defScope st__law_history) := ⟨rfl, rfl, rfl, by decide +kernel, rfl, by decide +kernel, by decide +kernel⟩
theorem ok__law_history (B : Bt mg) (Z : Xs K mg XC) (G : FnCx P w K mg base XC C k names) (fa : Addr) (cdv : Value) (A : Around) (outer : List Env) (s : Shared) (H : Hp) (E : XK) (hr : Room k (A.deeper (envOfC "_law_history" (defScope st__law_history) s.heap.objs.size fa cdv))) :
    PSs (cxOf (L2.CX P w) P w K mg base N__law_history "_law_history" (defScope st__law_history) fa cdv A outer s H E) (defBody st__law_history) (tSs K XC C (fun cls d _ H => E cls d H) fd__law_history.pw fd__law_history.body) := by
  have sc := sc__law_history
  have tk : Takes (cxOf (L2.CX P w) P w K mg base N__law_history "_law_history" (defScope st__law_history) fa cdv A outer s H E) (fun cls d _ H => E cls d H) := takes_of rfl rfl rfl rfl
  exact (ss_cons (ss_par3 (i := 4) (j := 5) (l := 6) (fun _ h => ps_par3 rfl sc.nd rfl rfl rfl (by decide) (by decide) (by decide) rfl rfl rfl h (by rfl)) (se_lst pfs_nil) se_int (se_bin po_add (se_o se_int) (se_o (se_call (G.at_ 16 "_law_take" rfl) hr (by rfl) tk (pra_own (se_varO (pv 0)) (pra_cons se_int pra_nil))))))
    (ss_cons (ss_for (passes_of rfl) rfl (si_range1 (by rfl) B.b_range (pfs_cons (se_call (G.at_ 16 "_law_take" rfl) hr (by rfl) tk (pra_own (se_varO (pv 0)) (pra_cons (se_bin po_add (se_varO (pv 2)) (se_o se_int)) pra_nil))) pfs_nil)) (sg_nm (pg_name (i := 3) sc.nd rfl (by first | exact Or.inl rfl | exact Or.inr rfl))) (ss_cons (ss_if (PW.pt (sw_and (st_cmp po_gt hb_gt (se_varO (pv 5)) (se_o se_int)) (sw_and1 (st_cmp po_lt hb_lt (se_o (se_call (G.at_ 16 "_law_take" rfl) hr (by rfl) tk (pra_own (se_varO (pv 0)) (pra_cons se_int pra_nil)))) (se_varO (pv 6)))))) (ss_cons (ss_app (i := 4) (pv 4) (se_tup (pfs_cons se_str pfs_nil)) (fun a b => ps_expr (pe_bm PySem.F.plainAttrs_list PySem.F.slot_list_append PySem.F.type_list_append mt_append a b)))
    (ss_cons (ss_set (i := 5) sc.nd rfl (by first | exact Or.inl rfl | exact Or.inr rfl) (se_bin po_sub (se_varO (pv 5)) (se_o se_int)))
    ss_nil)) (ss_cons (ss_app (i := 4) (pv 4) (se_tup (pfs_cons se_str (pfs_cons (se_bin po_add (se_o se_int) (se_o (se_call (G.at_ 16 "_law_take" rfl) hr (by rfl) tk (pra_own (se_varO (pv 0)) (pra_cons (se_var (pv 1)) pra_nil))))) pfs_nil))) (fun a b => ps_expr (pe_bm PySem.F.plainAttrs_list PySem.F.slot_list_append PySem.F.type_list_append mt_append a b)))
    (ss_cons (ss_set (i := 5) sc.nd rfl (by first | exact Or.inl rfl | exact Or.inr rfl) (se_bin po_add (se_varO (pv 5)) (se_o se_int)))
    ss_nil)))
    ss_nil))
    (ss_cons (ss_ret (se_callTy pc_tuple (by rfl) B.b_tuple (by decide +kernel) (pas_cons (se_varO (pv 4)) pas_nil)))
    ss_nil)))
theorem sc__law_telling : FnScope N__law_telling ["tin", "letters"] (defScope st__law_telling) := ⟨rfl, rfl, rfl, by decide +kernel, rfl, by decide +kernel, by decide +kernel⟩
theorem ok__law_telling (B : Bt mg) (Z : Xs K mg XC) (G : FnCx P w K mg base XC C k names) (fa : Addr) (cdv : Value) (A : Around) (outer : List Env) (s : Shared) (H : Hp) (E : XK) (hr : Room k (A.deeper (envOfC "_law_telling" (defScope st__law_telling) s.heap.objs.size fa cdv))) :
    PSs (cxOf (L2.CX P w) P w K mg base N__law_telling "_law_telling" (defScope st__law_telling) fa cdv A outer s H E) (defBody st__law_telling) (tSs K XC C (fun cls d _ H => E cls d H) fd__law_telling.pw fd__law_telling.body) := by
  have sc := sc__law_telling
  have tk : Takes (cxOf (L2.CX P w) P w K mg base N__law_telling "_law_telling" (defScope st__law_telling) fa cdv A outer s H E) (fun cls d _ H => E cls d H) := takes_of rfl rfl rfl rfl
  exact (ss_cons (ss_set (i := 2) sc.nd rfl (by first | exact Or.inl rfl | exact Or.inr rfl) (se_lst (pfs_cons se_int pfs_nil)))
    (ss_cons (ss_for (passes_of rfl) rfl (si_range1 (by rfl) B.b_range (pfs_cons (se_bin po_sub (se_varO (pv 1)) (se_o se_int)) pfs_nil)) (sg_nm (pg_name (i := 3) sc.nd rfl (by first | exact Or.inl rfl | exact Or.inr rfl))) (ss_cons (ss_app (i := 2) (pv 2) (se_call (G.at_ 16 "_law_take" rfl) hr (by rfl) tk (pra_own (se_varO (pv 0)) (pra_cons (se_bin po_add (se_o (se_callB (pc_max1 rfl) (by rfl) B.b_max (by decide +kernel) (pas_cons (se_varO (pv 2)) pas_nil))) (se_o se_int)) pra_nil))) (fun a b => ps_expr (pe_bm PySem.F.plainAttrs_list PySem.F.slot_list_append PySem.F.type_list_append mt_append a b)))
    ss_nil))
    (ss_cons (ss_ret (se_callTy pc_tuple (by rfl) B.b_tuple (by decide +kernel) (pas_cons (se_varO (pv 2)) pas_nil)))
    ss_nil)))
theorem sc__law_told : FnScope N__law_told ["mode", "shown", "telling", "history"] (defScope st__law_told) := ⟨rfl, rfl, rfl, by decide +kernel, rfl, by decide +kernel, by decide +kernel⟩
theorem ok__law_told (B : Bt mg) (Z : Xs K mg XC) (G : FnCx P w K mg base XC C k names) (fa : Addr) (cdv : Value) (A : Around) (outer : List Env) (s : Shared) (H : Hp) (E : XK) (hr : Room k (A.deeper (envOfC "_law_told" (defScope st__law_told) s.heap.objs.size fa cdv))) :
    PSs (cxOf (L2.CX P w) P w K mg base N__law_told "_law_told" (defScope st__law_told) fa cdv A outer s H E) (defBody st__law_told) (tSs K XC C (fun cls d _ H => E cls d H) fd__law_told.pw fd__law_told.body) := by
  have sc := sc__law_told
  have tk : Takes (cxOf (L2.CX P w) P w K mg base N__law_told "_law_told" (defScope st__law_told) fa cdv A outer s H E) (fun cls d _ H => E cls d H) := takes_of rfl rfl rfl rfl
  exact (ss_cons (ss_try rfl rfl sc.nd tk (fun _ _ _ tk2 _ => (ss_cons (ss_ret (se_call (G.at_ 14 "heard_along" rfl) hr (by rfl) tk2 (pra_cons (se_var (pv 0)) (pra_cons (se_var (pv 1)) (pra_cons (se_var (pv 2)) (pra_cons (se_var (pv 3)) pra_nil))))))
    ss_nil)) (ClsOk.named (i := 4) rfl rfl ⟨by rfl, by decide, Or.inl Z.e_Unfit.gC⟩ (fun a oe cls d pn hz hf => pss_one (ps_ret (pe_lst (his_cons hi_str (his_cons (hi_isVE Z.e_Unfit.EC Z.e_Unfit.ve hz hf (by rfl) B.b_isinstance (by rfl) B.b_ValueError (pv 4)) his_nil))))) (ClsOk.named (i := 4) rfl rfl ⟨by rfl, by decide, Or.inl Z.e_NoPlace.own.gC⟩ (fun a oe cls d pn hz hf => pss_one (ps_ret (pe_lst (his_cons hi_str (his_cons (hi_fld Z.e_NoPlace.xf Z.e_NoPlace.own.noN hz hf (pv 4)) his_nil))))) ClsOk.nil)) (Sems.cons (sem_ret (i := 4) (xs := [.lit (.str (Str.ofString "unfit")), .lit (.bl true)]) rfl rfl Z.h_Unfit Z.u_Unfit (by decide)) (Sems.cons (sem_ret (i := 4) (xs := [.lit (.str (Str.ofString "place")), .fld]) rfl rfl Z.h_NoPlace Z.u_NoPlace (by decide)) Sems.nil)))
    ss_nil)
theorem sc__law_by_hand_right : FnScope N__law_by_hand_right [] (defScope st__law_by_hand_right) := ⟨rfl, rfl, rfl, by decide +kernel, rfl, by decide +kernel, by decide +kernel⟩
theorem ok__law_by_hand_right (B : Bt mg) (Z : Xs K mg XC) (G : FnCx P w K mg base XC C k names) (fa : Addr) (cdv : Value) (A : Around) (outer : List Env) (s : Shared) (H : Hp) (E : XK) (hr : Room k (A.deeper (envOfC "_law_by_hand_right" (defScope st__law_by_hand_right) s.heap.objs.size fa cdv))) :
    PSs (cxOf (L2.CX P w) P w K mg base N__law_by_hand_right "_law_by_hand_right" (defScope st__law_by_hand_right) fa cdv A outer s H E) (defBody st__law_by_hand_right) (tSs K XC C (fun cls d _ H => E cls d H) fd__law_by_hand_right.pw fd__law_by_hand_right.body) := by
  have sc := sc__law_by_hand_right
  have tk : Takes (cxOf (L2.CX P w) P w K mg base N__law_by_hand_right "_law_by_hand_right" (defScope st__law_by_hand_right) fa cdv A outer s H E) (fun cls d _ H => E cls d H) := takes_of rfl rfl rfl rfl
  exact (ss_cons (ss_set (i := 0) sc.nd rfl (by first | exact Or.inl rfl | exact Or.inr rfl) (se_tup (pfs_cons (se_tup (pfs_cons se_str (pfs_cons se_int pfs_nil))) (pfs_cons (se_tup (pfs_cons se_str (pfs_cons se_int pfs_nil))) (pfs_cons (se_tup (pfs_cons se_str pfs_nil)) (pfs_cons (se_tup (pfs_cons se_str (pfs_cons se_int pfs_nil))) (pfs_cons (se_tup (pfs_cons se_str pfs_nil)) pfs_nil)))))))
    (ss_cons (ss_ret (se_call (G.at_ 18 "_law_same" rfl) hr (by rfl) tk (pra_cons (se_lst (pfs_cons (se_call (G.at_ 9 "stands" rfl) hr (by rfl) tk (pra_cons se_str (pra_cons (se_var (pv 0)) pra_nil))) (pfs_cons (se_call (G.at_ 9 "stands" rfl) hr (by rfl) tk (pra_cons se_str (pra_cons (se_var (pv 0)) pra_nil))) (pfs_cons (se_call (G.at_ 11 "letters_out" rfl) hr (by rfl) tk (pra_cons se_str (pra_cons (se_var (pv 0)) pra_nil))) (pfs_cons (se_call (G.at_ 13 "seen" rfl) hr (by rfl) tk (pra_cons se_str (pra_cons (se_tup (pfs_cons se_int (pfs_cons se_int (pfs_cons se_int pfs_nil)))) (pra_cons se_int pra_nil)))) (pfs_cons (se_idx (se_o (se_idx (se_o (se_call (G.at_ 26 "_law_told" rfl) hr (by rfl) tk (pra_cons se_str (pra_cons se_int (pra_cons (se_tup (pfs_cons se_int (pfs_cons se_int pfs_nil))) (pra_cons (se_var (pv 0)) pra_nil)))))) (se_o se_int))) (se_o se_int)) pfs_nil)))))) (pra_cons (se_lst (pfs_cons (se_tup (pfs_cons se_int pfs_nil)) (pfs_cons (se_tup (pfs_cons se_int pfs_nil)) (pfs_cons (se_tup (pfs_cons se_int (pfs_cons se_int pfs_nil))) (pfs_cons (se_tup (pfs_cons se_int (pfs_cons se_int pfs_nil))) (pfs_cons (se_tup (pfs_cons se_str (pfs_cons se_int pfs_nil))) pfs_nil)))))) pra_nil))))
    ss_nil))
theorem sc__law_right : FnScope N__law_right ["tin"] (defScope st__law_right) := ⟨rfl, rfl, rfl, by decide +kernel, rfl, by decide +kernel, by decide +kernel⟩
theorem ok__law_right (B : Bt mg) (Z : Xs K mg XC) (G : FnCx P w K mg base XC C k names) (fa : Addr) (cdv : Value) (A : Around) (outer : List Env) (s : Shared) (H : Hp) (E : XK) (hr : Room k (A.deeper (envOfC "_law_right" (defScope st__law_right) s.heap.objs.size fa cdv))) :
    PSs (cxOf (L2.CX P w) P w K mg base N__law_right "_law_right" (defScope st__law_right) fa cdv A outer s H E) (defBody st__law_right) (tSs K XC C (fun cls d _ H => E cls d H) fd__law_right.pw fd__law_right.body) := by
  have sc := sc__law_right
  have tk : Takes (cxOf (L2.CX P w) P w K mg base N__law_right "_law_right" (defScope st__law_right) fa cdv A outer s H E) (fun cls d _ H => E cls d H) := takes_of rfl rfl rfl rfl
  exact (ss_cons (ss_unp (se_tup (pfs_cons (se_bin po_add (se_o se_int) (se_o (se_call (G.at_ 16 "_law_take" rfl) hr (by rfl) tk (pra_own (se_varO (pv 0)) (pra_cons se_int pra_nil))))) (pfs_cons (se_call (G.at_ 16 "_law_take" rfl) hr (by rfl) tk (pra_own (se_varO (pv 0)) (pra_cons se_int pra_nil))) pfs_nil))) (sg_tp rfl (sgs_cons (sg_nm (pg_name (i := 4) sc.nd rfl (by first | exact Or.inl rfl | exact Or.inr rfl))) (sgs_cons (sg_nm (pg_name (i := 5) sc.nd rfl (by first | exact Or.inl rfl | exact Or.inr rfl))) sgs_nil))))
    (ss_cons (ss_par (i := 6) (j := 7) (D0 := True) (fun _ h => ps_par rfl sc.nd rfl rfl (by decide) rfl rfl h (by rfl)) (se_call (G.at_ 24 "_law_history" rfl) hr (by rfl) tk (pra_own (se_varO (pv 0)) (pra_cons (se_var (pv 4)) (pra_cons se_int pra_nil)))) (se_call (G.at_ 25 "_law_telling" rfl) hr (by rfl) tk (pra_own (se_varO (pv 0)) (pra_cons (se_var (pv 4)) pra_nil))))
    (ss_cons (ss_for (passes_of rfl) rfl (si_val (se_tup (pfs_cons se_str (pfs_cons se_str pfs_nil)))) (sg_nm (pg_name (i := 1) sc.nd rfl (by first | exact Or.inl rfl | exact Or.inr rfl))) (ss_cons (ss_unp (se_call (G.at_ 21 "_law_rows" rfl) hr (by rfl) tk (pra_cons (se_var (pv 1)) (pra_cons (se_var (pv 6)) pra_nil))) (sg_tp rfl (sgs_cons (sg_nm (pg_name (i := 11) sc.nd rfl (by first | exact Or.inl rfl | exact Or.inr rfl))) (sgs_cons (sg_nm (pg_name (i := 12) sc.nd rfl (by first | exact Or.inl rfl | exact Or.inr rfl))) sgs_nil))))
    (ss_cons (ss_set (i := 8) sc.nd rfl (by first | exact Or.inl rfl | exact Or.inr rfl) (se_lst (pfs_cons (se_call (G.at_ 8 "standings" rfl) hr (by rfl) tk (pra_cons (se_var (pv 1)) (pra_cons (se_call (G.at_ 19 "_law_lists" rfl) hr (by rfl) tk (pra_cons (se_var (pv 6)) pra_nil)) pra_nil))) (pfs_cons (se_call (G.at_ 9 "stands" rfl) hr (by rfl) tk (pra_cons (se_var (pv 1)) (pra_cons (se_var (pv 6)) pra_nil))) (pfs_cons (se_call (G.at_ 11 "letters_out" rfl) hr (by rfl) tk (pra_cons (se_var (pv 1)) (pra_cons (se_var (pv 6)) pra_nil))) (pfs_cons (se_comp (own := [("own", 14)]) (tg := .nm 14) rfl sc.nd (si_val (se_sl (se_varO (pv 11)) (sp_some (se_un po_neg (se_o se_int))) sp_none)) (blkOk_by (N := N__law_right) (sc := (defScope st__law_right)) (by decide +kernel)) (fun _ _ _ _ _ => (sg_nm (pg_name (i := 14) sc.nd rfl (by first | exact Or.inl rfl | exact Or.inr rfl)))) (fun _ _ _ _ _ => sts_nil) (fun _ _ _ _ _ => (se_call (G.at_ 13 "seen" rfl) hr (by rfl) takes0 (pra_cons (se_var (pv 1)) (pra_cons (se_var (pv 14)) (pra_cons (se_var (pv 5)) pra_nil))))) (by decide)) pfs_nil))))))
    (ss_cons (ss_if (st_not (st_e (se_o (se_call (G.at_ 18 "_law_same" rfl) hr (by rfl) tk (pra_cons (se_var (pv 8)) (pra_cons (se_lst (pfs_cons (se_var (pv 11)) (pfs_cons (se_idx (se_varO (pv 11)) (se_o (se_un po_neg (se_o se_int)))) (pfs_cons (se_var (pv 12)) (pfs_cons (se_comp (own := [("own", 14)]) (tg := .nm 14) rfl sc.nd (si_val (se_sl (se_varO (pv 11)) (sp_some (se_un po_neg (se_o se_int))) sp_none)) (blkOk_by (N := N__law_right) (sc := (defScope st__law_right)) (by decide +kernel)) (fun _ _ _ _ _ => (sg_nm (pg_name (i := 14) sc.nd rfl (by first | exact Or.inl rfl | exact Or.inr rfl)))) (fun _ _ _ _ _ => sts_nil) (fun _ _ _ _ _ => (se_call (G.at_ 22 "_law_seen" rfl) hr (by rfl) takes0 (pra_cons (se_var (pv 1)) (pra_cons (se_var (pv 14)) (pra_cons (se_var (pv 5)) pra_nil))))) (by decide)) pfs_nil))))) pra_nil)))))) (ss_cons (ss_ret se_bl)
    ss_nil) ss_nil)
    (ss_cons (ss_if (st_not (st_e (se_o (se_call (G.at_ 18 "_law_same" rfl) hr (by rfl) tk (pra_cons (se_call (G.at_ 26 "_law_told" rfl) hr (by rfl) tk (pra_cons (se_var (pv 1)) (pra_cons (se_var (pv 5)) (pra_cons (se_call (G.at_ 19 "_law_lists" rfl) hr (by rfl) tk (pra_cons (se_var (pv 7)) pra_nil)) (pra_cons (se_var (pv 6)) pra_nil))))) (pra_cons (se_call (G.at_ 23 "_law_heard" rfl) hr (by rfl) tk (pra_cons (se_var (pv 1)) (pra_cons (se_var (pv 5)) (pra_cons (se_var (pv 7)) (pra_cons (se_var (pv 6)) pra_nil))))) pra_nil)))))) (ss_cons (ss_ret se_bl)
    ss_nil) ss_nil)
    (ss_cons (ss_setC (i := 9) (own := [("deed", 13)]) (tg := .nm 13) rfl sc.nd rfl rfl (sw_true rfl rfl rfl (by decide +kernel)) (si_val (se_var (pv 6))) (blkOk_by (N := N__law_right) (sc := (defScope st__law_right)) (by decide +kernel)) (fun _ _ _ _ _ => (sg_nm (pg_name (i := 13) sc.nd rfl (by first | exact Or.inl rfl | exact Or.inr rfl)))) (fun _ _ _ _ _ => (sts_one (PW.pt (sw_and (st_cmp (po_eq hr.units) hb_eq (se_o (se_idx (se_varO (pv 13)) (se_o se_int))) (se_o se_str)) (sw_and1 (st_cmp po_gt hb_gt (se_o (se_idx (se_varO (pv 13)) (se_o se_int))) (se_o se_int))))))) (fun _ _ _ _ _ => (se_idx (se_varO (pv 13)) (se_o se_int))) (by decide))
    (ss_cons (ss_if (PW.pt (sw_and (st_cmp (po_ne hr.units) hb_ne (se_varO (pv 9)) (se_o (se_lst pfs_nil))) (sw_and1 (st_not (st_e (se_o (se_call (G.at_ 18 "_law_same" rfl) hr (by rfl) tk (pra_cons (se_call (G.at_ 26 "_law_told" rfl) hr (by rfl) tk (pra_cons (se_var (pv 1)) (pra_cons (se_var (pv 5)) (pra_cons (se_tup (pfs_cons se_int pfs_nil)) (pra_cons (se_var (pv 6)) pra_nil))))) (pra_cons (se_lst (pfs_cons se_str (pfs_cons (se_idx (se_varO (pv 9)) (se_o se_int)) pfs_nil))) pra_nil))))))))) (ss_cons (ss_ret se_bl)
    ss_nil) ss_nil)
    (ss_cons (ss_set (i := 10) sc.nd rfl (by first | exact Or.inl rfl | exact Or.inr rfl) (se_bin po_add (se_o (se_idx (se_varO (pv 11)) (se_o (se_un po_neg (se_o se_int))))) (se_o (se_bin po_mulX (se_o (se_tup (pfs_cons se_int pfs_nil))) (se_o (se_call (G.at_ 16 "_law_take" rfl) hr (by rfl) tk (pra_own (se_varO (pv 0)) (pra_cons se_int pra_nil))))))))
    (ss_cons (ss_if (st_not (st_e (se_o (se_call (G.at_ 18 "_law_same" rfl) hr (by rfl) tk (pra_cons (se_call (G.at_ 9 "stands" rfl) hr (by rfl) tk (pra_cons (se_var (pv 1)) (pra_cons (se_bin po_add (se_o (se_call (G.at_ 4 "puts" rfl) hr (by rfl) tk (pra_cons (se_var (pv 10)) pra_nil))) (se_o (se_bin po_mulX (se_o (se_call (G.at_ 5 "outs" rfl) hr (by rfl) tk (pra_cons se_int pra_nil))) (se_o (se_callB pc_len (by rfl) B.b_len (by decide +kernel) (pas_cons (se_varO (pv 10)) pas_nil)))))) pra_nil))) (pra_cons (se_tup pfs_nil) pra_nil)))))) (ss_cons (ss_ret se_bl)
    ss_nil) ss_nil)
    ss_nil)))))))))
    (ss_cons (ss_set (i := 2) sc.nd rfl (by first | exact Or.inl rfl | exact Or.inr rfl) (se_call (G.at_ 16 "_law_take" rfl) hr (by rfl) tk (pra_own (se_varO (pv 0)) (pra_cons (se_bin po_add (se_o (se_callB pc_len (by rfl) B.b_len (by decide +kernel) (pas_cons (se_varO (pv 6)) pas_nil))) (se_o se_int)) pra_nil))))
    (ss_cons (ss_set (i := 3) sc.nd rfl (by first | exact Or.inl rfl | exact Or.inr rfl) (se_bin po_add (se_o (se_bin po_add (se_o (se_sl (se_varO (pv 6)) sp_none (sp_some (se_var (pv 2))))) (se_o (se_bin po_mulX (se_o (se_tup (pfs_cons (se_tup (pfs_cons se_str pfs_nil)) pfs_nil))) (se_o (se_bin po_add (se_o se_int) (se_o (se_call (G.at_ 16 "_law_take" rfl) hr (by rfl) tk (pra_own (se_varO (pv 0)) (pra_cons se_int pra_nil)))))))))) (se_o (se_sl (se_varO (pv 6)) (sp_some (se_var (pv 2))) sp_none))))
    (ss_cons (ss_ret (se_call (G.at_ 18 "_law_same" rfl) hr (by rfl) tk (pra_cons (se_lst (pfs_cons (se_call (G.at_ 2 "is_sound" rfl) hr (by rfl) tk (pra_cons (se_var (pv 6)) pra_nil)) (pfs_cons (se_call (G.at_ 2 "is_sound" rfl) hr (by rfl) tk (pra_cons (se_call (G.at_ 19 "_law_lists" rfl) hr (by rfl) tk (pra_cons (se_var (pv 3)) pra_nil)) pra_nil)) (pfs_cons (se_cmp (po_eq hr.units) (se_o (se_call (G.at_ 26 "_law_told" rfl) hr (by rfl) tk (pra_cons se_str (pra_cons (se_var (pv 5)) (pra_cons (se_var (pv 7)) (pra_cons (se_var (pv 3)) pra_nil)))))) (se_o (se_lst (pfs_cons se_str (pfs_cons se_bl pfs_nil))))) pfs_nil)))) (pra_cons (se_lst (pfs_cons se_bl (pfs_cons (se_call (G.at_ 20 "_law_is_sound" rfl) hr (by rfl) tk (pra_cons (se_var (pv 3)) pra_nil)) (pfs_cons (se_not (se_o (se_call (G.at_ 20 "_law_is_sound" rfl) hr (by rfl) tk (pra_cons (se_var (pv 3)) pra_nil)))) pfs_nil)))) pra_nil))))
    ss_nil))))))
theorem sc_law : FnScope N_law ["script"] (defScope st_law) := ⟨rfl, rfl, rfl, by decide +kernel, rfl, by decide +kernel, by decide +kernel⟩
theorem ok_law (B : Bt mg) (Z : Xs K mg XC) (G : FnCx P w K mg base XC C k names) (fa : Addr) (cdv : Value) (A : Around) (outer : List Env) (s : Shared) (H : Hp) (E : XK) (hr : Room k (A.deeper (envOfC "law" (defScope st_law) s.heap.objs.size fa cdv))) :
    PSs (cxOf (L2.CX P w) P w K mg base N_law "law" (defScope st_law) fa cdv A outer s H E) (defBody st_law) (tSs K XC C (fun cls d _ H => E cls d H) fd_law.pw fd_law.body) := by
  have sc := sc_law
  have tk : Takes (cxOf (L2.CX P w) P w K mg base N_law "law" (defScope st_law) fa cdv A outer s H E) (fun cls d _ H => E cls d H) := takes_of rfl rfl rfl rfl
  exact (ss_cons (ss_if (st_not (st_e (se_o (se_call0 (G.at_ 27 "_law_by_hand_right" rfl) hr (by rfl) tk)))) (ss_cons (ss_ret se_bl)
    ss_nil) ss_nil)
    (ss_cons (ss_ret (se_call (G.at_ 28 "_law_right" rfl) hr (by rfl) tk (pra_own (se_o (se_call (G.at_ 15 "_law_box" rfl) hr (by rfl) tk (pra_cons (se_call (G.at_ 17 "_law_cells" rfl) hr (by rfl) tk (pra_cons (se_var (pv 0)) (pra_cons se_int pra_nil))) (pra_cons se_int pra_nil)))) pra_nil)))
    ss_nil))
end

end K01

end

section
set_option maxRecDepth 100000
set_option maxHeartbeats 4000000
/-! K01, the plain law: the words and histories as plain lists. -/
namespace K01
open PI
open PySem (Str PyData)
inductive Dd where | inn (i : Int) | out
def Dd.d : Dd → D
  | .inn i => .tup [.str (Str.ofString "in"), .int i]
  | .out => .tup [.str (Str.ofString "out")]
def hs (h : List Dd) : List D := h.map Dd.d
def iw (w : List Int) : D := .tup (w.map D.int)
def beh (q : Bool) (w : List Int) : Dd → List Int
  | .inn i => w ++ [i]
  | .out => if q then w.drop 1 else w.dropLast
def rows (q : Bool) : List Int → List Dd → List (List Int)
  | w, [] => [w]
  | w, d :: h => w :: rows q (beh q w d) h
def snd : Nat → List Dd → Bool
  | _, [] => true
  | n, .inn _ :: h => snd (n + 1) h
  | 0, .out :: _ => false
  | n + 1, .out :: h => snd n h
def pick (q : Bool) (w : List Int) : Int := if q then w.headD 0 else w.getLastD 0
def gone (q : Bool) : List Int → List Dd → List Int
  | _, [] => []
  | w, .inn i :: h => gone q (w ++ [i]) h
  | w, .out :: h => pick q w :: gone q (beh q w .out) h
def sn (q : Bool) (w : List Int) (s : Nat) : List Int := if q then w.take s else w.drop (w.length - s)
@[simp] theorem rows_length {q : Bool} : ∀ {h : List Dd} {w : List Int}, (rows q w h).length = h.length + 1
  | [], w => rfl
  | d :: h, w => by simp [rows, rows_length]
theorem beh_len {q : Bool} {w : List Int} {d : Dd} : (beh q w d).length = match d with | .inn _ => w.length + 1 | .out => w.length - 1 := by
  cases d <;> cases q <;> simp [beh]
theorem padd_tup {a b : List D} (h : a.length + b.length ≤ 16777216) : padd [.tup a, .tup b] = some (.fz (.tup (a ++ b))) := by
  show (if _ then _ else _) = _
  rw [if_pos (by rw [szl]; exact h)]
@[simp] theorem hs_nil : hs [] = [] := rfl
@[simp] theorem hs_inn {i h} : hs (.inn i :: h) = .tup [.str (Str.ofString "in"), .int i] :: hs h := rfl
@[simp] theorem hs_out {h} : hs (.out :: h) = .tup [.str (Str.ofString "out")] :: hs h := rfl
@[simp] theorem hs_length {h} : (hs h).length = h.length := by simp [hs]
/-! ### plain data -/
theorem plain_iw {n : Nat} {w : List Int} (h : w.length ≤ 100000) : plainD (n + 1) (iw w) = true := by
  simp only [iw, plain_tup, Bool.and_eq_true, decide_eq_true_eq, plains_iff, List.length_map]
  refine ⟨by rw [szl]; omega, fun x hx => ?_⟩
  obtain ⟨i, _, rfl⟩ := List.mem_map.mp hx
  simp
theorem plain_dd {n : Nat} {d : Dd} : plainD (n + 1) d.d = true := by
  cases d <;> simp [Dd.d, plains, szl]
  · exact lay_in
  · exact lay_out
theorem plain_hs {n : Nat} {h : List Dd} (hl : h.length ≤ 100000) : plainD (n + 2) (.tup (hs h)) = true := by
  simp only [plain_tup, Bool.and_eq_true, decide_eq_true_eq, plains_iff, hs_length]
  refine ⟨by rw [szl]; omega, fun x hx => ?_⟩
  obtain ⟨i, _, rfl⟩ := List.mem_map.mp hx
  exact plain_dd
theorem tupD_iw {n : Nat} {w : List Int} : tupD (n + 1) (iw w) = iw w := by simp [iw, Function.comp_def]
theorem tupD_dd {n : Nat} {d : Dd} : tupD (n + 1) d.d = d.d := by cases d <;> simp [Dd.d]
theorem tupD_hs {n : Nat} {h : List Dd} : tupD (n + 2) (.tup (hs h)) = .tup (hs h) := by
  simp only [tupD_tup, hs, List.map_map]
  congr 1
  apply List.map_congr_left
  intro d _
  exact tupD_dd
/-- a history, as tuples or as lists -/
def lhs (h : List Dd) : D := lstD 3 (.tup (hs h))
/-! ### the calls -/
section
variable {k : Nat}
theorem tup_hs (hk : 5 ≤ k) {h : List Dd} (hl : h.length ≤ 100000) : run tbl k 0 [.fz (.tup (hs h))] = .ok (.fz (.tup (hs h))) [.un] := by
  obtain ⟨j, rfl⟩ : ∃ j, k = j + 3 + 1 := ⟨k - 4, by omega⟩
  rw [tup_ok (tbl := tbl) (s := 0) rfl 3 j _ (plain_hs hl), tupD_hs]
theorem tup_lhs (hk : 5 ≤ k) {h : List Dd} (hl : h.length ≤ 100000) : run tbl k 0 [.fz (lhs h)] = .ok (.fz (.tup (hs h))) [.un] := by
  obtain ⟨j, rfl⟩ : ∃ j, k = j + 3 + 1 := ⟨k - 4, by omega⟩
  rw [lhs, tup_ok (tbl := tbl) (s := 0) rfl 3 j _ (plain_lstD (plain_hs hl)), tup_lst, tupD_hs]
theorem tup_iw (hk : 5 ≤ k) {w : List Int} (hl : w.length ≤ 100000) : run tbl k 0 [.fz (iw w)] = .ok (.fz (iw w)) [.un] := by
  obtain ⟨j, rfl⟩ : ∃ j, k = j + 3 + 1 := ⟨k - 4, by omega⟩
  rw [tup_ok (tbl := tbl) (s := 0) rfl 3 j _ (plain_iw hl), tupD_iw]
theorem lists_hs (hk : 5 ≤ k) {h : List Dd} (hl : h.length ≤ 100000) : run tbl k 19 [.fz (.tup (hs h))] = .ok (.ow (lhs h)) [.un] := by
  obtain ⟨j, rfl⟩ : ∃ j, k = j + (2 + 1) + 1 := ⟨k - 4, by omega⟩
  exact lists_tup (tbl := tbl) (s := 19) rfl 2 j _ (plain_hs hl)
/-! ### soundness -/
theorem sound_loop {C : Calls} {a : Ent} : ∀ (h : List Dd) (n : Nat) (x : Ent), ∃ y z, forLoop [] (.nm 2) (execs C [] [.set 1 (.ite (.e (.pn peq [.pn pidx [.var 2, .lit (.int 0)], .lit (.str (Str.ofString "in"))])) (.pn padd [.var 1, .lit (.int 1)]) (.pn psub [.var 1, .lit (.int 1)])), .ite (.e (.pn plt [.var 1, .lit (.int 0)])) [.ret (.lit (.bl false))] []]) (hs h) [a, .fz (.int (n : Int)), x] = if snd n h then .nx [a, y, z] else .rt (.fz (.bl false)) [a, y, z]
  | [], n, x => ⟨_, _, by simp [snd]; exact ⟨rfl, rfl⟩⟩
  | .inn i :: h, n, x => by
    obtain ⟨y, z, e⟩ := sound_loop (C := C) (a := a) h (n + 1) (.fz (Dd.inn i).d)
    refine ⟨y, z, ?_⟩
    have e1 : ¬ ((n : Int) + 1 < 0) := by omega
    simp [Dd.d] at e
    simp [snd, e, e1]; rfl
  | .out :: h, 0, x => ⟨.fz (.int (-1)), .fz (Dd.out).d, by simp [snd, Dd.d]⟩
  | .out :: h, n + 1, x => by
    obtain ⟨y, z, e⟩ := sound_loop (C := C) (a := a) h n (.fz (Dd.out).d)
    refine ⟨y, z, ?_⟩
    have e1 : ¬ ((n : Int) < 0) := by omega
    have e2 : ((n : Int) + 1 - 1) = (n : Int) := by omega
    simp [Dd.d] at e
    simp [snd, e, e1, e2]; rfl
theorem sound_in (hk : 1 ≤ k) {h : List Dd} : run tbl k 1 [.fz (.tup (hs h))] = .ok (.fz (.bl (snd 0 h))) [.un] := by
  obtain ⟨j, rfl⟩ : ∃ j, k = j + 1 := ⟨k - 1, by omega⟩
  rw [run_def (fd := fd_is_sound_in) rfl rfl]
  obtain ⟨y, z, e⟩ := sound_loop (C := run tbl j) (a := .fz (.tup (hs h))) h 0 .un
  simp at e
  cases q : snd 0 h <;> simp [q] at e <;> simp [fd_is_sound_in, e]
theorem own_loop {C : Calls} {a : Ent} : ∀ (h : List Dd) (n : Nat) (x : Ent), ∃ y z, forLoop [] (.nm 2) (execs C [] [.set 1 (.pn padd [.var 1, .ite (.e (.pn peq [.pn pidx [.var 2, .lit (.int 0)], .lit (.str (Str.ofString "in"))])) (.lit (.int 1)) (.pn pneg [.lit (.int 1)])]), .ite (.e (.pn plt [.var 1, .lit (.int 0)])) [.ret (.lit (.bl false))] []]) (hs h) [a, .fz (.int (n : Int)), x] = if snd n h then .nx [a, y, z] else .rt (.fz (.bl false)) [a, y, z]
  | [], n, x => ⟨_, _, by simp [snd]; exact ⟨rfl, rfl⟩⟩
  | .inn i :: h, n, x => by
    obtain ⟨y, z, e⟩ := own_loop (C := C) (a := a) h (n + 1) (.fz (Dd.inn i).d)
    refine ⟨y, z, ?_⟩
    have e1 : ¬ ((n : Int) + 1 < 0) := by omega
    simp [Dd.d] at e
    simp [snd, e, e1]; rfl
  | .out :: h, 0, x => ⟨.fz (.int (-1)), .fz (Dd.out).d, by simp [snd, Dd.d]⟩
  | .out :: h, n + 1, x => by
    obtain ⟨y, z, e⟩ := own_loop (C := C) (a := a) h n (.fz (Dd.out).d)
    refine ⟨y, z, ?_⟩
    have e1 : ¬ ((n : Int) < 0) := by omega
    have e2 : ((n : Int) + 1 + -1) = (n : Int) := by omega
    simp [Dd.d] at e
    simp [snd, e, e1, e2]; rfl
theorem own_sound (hk : 1 ≤ k) {h : List Dd} : run tbl k 20 [.fz (.tup (hs h))] = .ok (.fz (.bl (snd 0 h))) [.un] := by
  obtain ⟨j, rfl⟩ : ∃ j, k = j + 1 := ⟨k - 1, by omega⟩
  rw [run_def (fd := fd__law_is_sound) rfl rfl]
  obtain ⟨y, z, e⟩ := own_loop (C := run tbl j) (a := .fz (.tup (hs h))) h 0 .un
  simp at e
  cases q : snd 0 h <;> simp [q] at e <;> simp [fd__law_is_sound, e]
/-- a history, in one of its two forms -/
def Hy (h : List Dd) (d : D) : Prop := d = .tup (hs h) ∨ d = lhs h
theorem tup_hy (hk : 5 ≤ k) {h : List Dd} {d : D} (hd : Hy h d) (hl : h.length ≤ 100000) : run tbl k 0 [.fz d] = .ok (.fz (.tup (hs h))) [.un] := by
  rcases hd with rfl | rfl
  · exact tup_hs hk hl
  · exact tup_lhs hk hl
theorem is_sound (hk : 6 ≤ k) {h : List Dd} {d : D} (hd : Hy h d) (hl : h.length ≤ 100000) : run tbl k 2 [.fz d] = .ok (.fz (.bl (snd 0 h))) [.un] := by
  obtain ⟨j, rfl⟩ : ∃ j, k = j + 1 := ⟨k - 1, by omega⟩
  rw [run_def (fd := fd_is_sound) rfl rfl]
  have e1 := tup_hy (k := j) (by omega) hd hl
  have e2 := sound_in (k := j) (by omega) (h := h)
  simp [fd_is_sound, e1, e2]
theorem sure (hk : 6 ≤ k) {h : List Dd} {d : D} (hd : Hy h d) (hl : h.length ≤ 100000) (hs0 : snd 0 h = true) : run tbl k 3 [.fz d] = .ok (.fz (.tup (hs h))) [.un] := by
  obtain ⟨j, rfl⟩ : ∃ j, k = j + 1 := ⟨k - 1, by omega⟩
  rw [run_def (fd := fd_sure_history) rfl rfl]
  have e1 := tup_hy (k := j) (by omega) hd hl
  have e2 := sound_in (k := j) (by omega) (h := h)
  simp [fd_sure_history, e1, e2, hs0]
theorem sure_no (hk : 6 ≤ k) {h : List Dd} {d : D} (hd : Hy h d) (hl : h.length ≤ 100000) (hs0 : snd 0 h = false) : run tbl k 3 [.fz d] = .ex "Unfit" [] [.un] := by
  obtain ⟨j, rfl⟩ : ∃ j, k = j + 1 := ⟨k - 1, by omega⟩
  rw [run_def (fd := fd_sure_history) rfl rfl]
  have e1 := tup_hy (k := j) (by omega) hd hl
  have e2 := sound_in (k := j) (by omega) (h := h)
  simp [fd_sure_history, e1, e2, hs0]
/-! ### what stands -/
theorem behind (hk : 1 ≤ k) {q : Bool} {w : List Int} {d : Dd} (hw : w.length ≤ 100000) : run tbl k 6 [.fz (.str (md q)), .fz (iw w), .fz d.d] = .ok (.fz (iw (beh q w d))) [.un, .un, .un] := by
  obtain ⟨j, rfl⟩ : ∃ j, k = j + 1 := ⟨k - 1, by omega⟩
  rw [run_def (fd := fd_behind) rfl rfl]
  cases d with
  | inn i => simp [fd_behind, Dd.d, iw, tupR, szl, padd_tup, show w.length + 1 ≤ 16777216 by omega, beh, outsOf, List.range_succ]
  | out => cases q <;> simp [fd_behind, Dd.d, iw, beh, outsOf, List.range_succ]
theorem last_app {α : Type} {xs : List α} {x : α} : (xs ++ [x])[(xs ++ [x]).length - 1]? = some x := by simp
theorem stand_loop {q : Bool} {b : Ent} (hk : 1 ≤ k) : ∀ (h : List Dd) (w : List Int) (acc : List D) (x : Ent), acc.length + h.length ≤ 10000 → w.length + h.length ≤ 10000 → ∃ y, forLoop [] (.nm 3) (execs (run tbl k) [] [.app 2 (.call 6 [false, false, false] [.var 0, .pn pidx [.var 2, .pn pneg [.lit (.int 1)]], .var 3])]) (hs h) [.fz (.str (md q)), b, .ow (.lst (acc ++ [iw w])), x] = .nx [.fz (.str (md q)), b, .ow (.lst (acc ++ (rows q w h).map iw)), y]
  | [], w, acc, x, _, _ => ⟨x, by simp [rows]⟩
  | d :: h, w, acc, x, hl, hw => by
    simp only [List.length_cons] at hl hw
    have hb : (beh q w d).length ≤ w.length + 1 := by rw [beh_len]; cases d <;> simp <;> omega
    obtain ⟨y, e⟩ := stand_loop (q := q) (b := b) hk h (beh q w d) (acc ++ [iw w]) (.fz d.d) (by simp; omega) (by omega)
    refine ⟨y, ?_⟩
    have e1 := behind (k := k) hk (q := q) (w := w) (d := d) (by omega)
    have e2 := appL_eq (i := 2) (e := [.fz (.str (md q)), b, .ow (.lst (acc ++ [iw w])), .fz d.d]) (d := iw (beh q w d)) rfl (by simp; omega)
    simp at e e2
    show forLoop [] (.nm 3) _ (d.d :: hs h) _ = _
    simp [e1, e2, e, rows]
theorem standings_in (hk : 2 ≤ k) {q : Bool} {h : List Dd} (hl : h.length ≤ 1000) : run tbl k 7 [.fz (.str (md q)), .fz (.tup (hs h))] = .ok (.ow (.lst ((rows q [] h).map iw))) [.un, .un] := by
  obtain ⟨j, rfl⟩ : ∃ j, k = j + 1 := ⟨k - 1, by omega⟩
  rw [run_def (fd := fd_standings_in) rfl rfl]
  obtain ⟨y, e⟩ := stand_loop (k := j) (q := q) (b := .fz (.tup (hs h))) (by omega) h [] [] .un (by simp; omega) (by simp; omega)
  simp [iw] at e
  simp [fd_standings_in, tupR, lstR, szl, e, iw, outsOf, List.range_succ]
theorem standings (hk : 7 ≤ k) {q : Bool} {h : List Dd} {d : D} (hd : Hy h d) (hl : h.length ≤ 1000) (h0 : snd 0 h = true) : run tbl k 8 [.fz (.str (md q)), .fz d] = .ok (.ow (.lst ((rows q [] h).map iw))) [.un, .un] := by
  obtain ⟨j, rfl⟩ : ∃ j, k = j + 1 := ⟨k - 1, by omega⟩
  rw [run_def (fd := fd_standings) rfl rfl]
  have e1 := sure (k := j) (by omega) hd (by omega) h0
  have e2 := standings_in (k := j) (by omega) (q := q) hl
  simp [fd_standings, e1, e2]
def fin (q : Bool) : List Int → List Dd → List Int
  | w, [] => w
  | w, d :: h => fin q (beh q w d) h
theorem rows_last {q : Bool} : ∀ {h : List Dd} {w : List Int}, (rows q w h)[h.length]? = some (fin q w h)
  | [], w => rfl
  | d :: h, w => by
    show (w :: rows q (beh q w d) h)[h.length + 1]? = _
    rw [List.getElem?_cons_succ]
    exact rows_last
theorem stands (hk : 8 ≤ k) {q : Bool} {h : List Dd} {d : D} (hd : Hy h d) (hl : h.length ≤ 1000) (h0 : snd 0 h = true) : run tbl k 9 [.fz (.str (md q)), .fz d] = .ok (.fz (iw (fin q [] h))) [.un, .un] := by
  obtain ⟨j, rfl⟩ : ∃ j, k = j + 1 := ⟨k - 1, by omega⟩
  rw [run_def (fd := fd_stands) rfl rfl]
  have e1 := standings (k := j) (by omega) (q := q) hd hl h0
  have rl := rows_last (q := q) (h := h) (w := [])
  simp at rl
  simp [fd_stands, e1, rl]
/-! ### what goes -/
theorem gone_in (hk : 1 ≤ k) {q : Bool} {w : List Int} (hw : w ≠ []) : run tbl k 10 [.fz (.str (md q)), .fz (iw w)] = .ok (.fz (.int (pick q w))) [.un, .un] := by
  obtain ⟨j, rfl⟩ : ∃ j, k = j + 1 := ⟨k - 1, by omega⟩
  rw [run_def (fd := fd_gone_in) rfl rfl]
  cases q with
  | true =>
    cases w with
    | nil => exact (hw rfl).elim
    | cons a r => simp [fd_gone_in, iw, pick]
  | false =>
    obtain ⟨r, a, rfl⟩ : ∃ r a, w = r ++ [a] := ⟨w.dropLast, w.getLast hw, (List.dropLast_concat_getLast hw).symm⟩
    simp [fd_gone_in, iw, pick]
/-- the test and the item of letters_out -/
def gP : D → Bool
  | .tup [_, .tup [.str _]] => true
  | _ => false
def wOf : List D → List Int
  | [] => []
  | .int i :: ds => i :: wOf ds
  | _ :: ds => wOf ds
@[simp] theorem wOf_map {w : List Int} : wOf (w.map D.int) = w := by induction w with
  | nil => rfl
  | cons a r ih => simp [wOf, ih]
def gF (q : Bool) : D → D
  | .tup [.tup w, _] => .int (pick q (wOf w))
  | _ => .non
theorem gone_zip {q : Bool} : ∀ {h : List Dd} {w : List Int}, ((zipD ((rows q w h).map iw) (hs h)).filter gP).map (gF q) = (gone q w h).map D.int
  | [], w => by simp [rows, zipD, gone]
  | .inn i :: h, w => by simp [rows, zipD, gone, gP, beh]; exact gone_zip
  | .out :: h, w => by
    show ((.tup [iw w, Dd.out.d] :: zipD ((rows q (beh q w .out) h).map iw) (hs h)).filter gP).map (gF q) = .int (pick q w) :: (gone q (beh q w .out) h).map D.int
    rw [List.filter_cons_of_pos (show gP (.tup [iw w, Dd.out.d]) = true from rfl), List.map_cons, gone_zip]
    simp [gF, iw]
/-- along a sound history nothing goes from an empty word -/
theorem zip_snd {q : Bool} : ∀ {h : List Dd} {w : List Int}, snd w.length h = true → ∀ x ∈ zipD ((rows q w h).map iw) (hs h), ∃ v d, x = .tup [iw v, Dd.d d] ∧ (d = .out → v ≠ [])
  | [], w, _, x, hx => by simp [rows, zipD] at hx
  | d :: h, w, h0, x, hx => by
    have : x = .tup [iw w, Dd.d d] ∨ x ∈ zipD ((rows q (beh q w d) h).map iw) (hs h) := by
      simpa [rows, zipD, hs] using hx
    rcases this with rfl | hx
    · refine ⟨w, d, rfl, fun e => ?_⟩
      subst e
      intro e
      subst e
      simp [snd] at h0
    · refine zip_snd (q := q) (w := beh q w d) ?_ x hx
      rw [beh_len]
      cases d with
      | inn i => exact h0
      | out =>
        cases w with
        | nil => simp [snd] at h0
        | cons a r => simpa [snd] using h0
theorem letters_out (hk : 7 ≤ k) {q : Bool} {h : List Dd} {d : D} (hd : Hy h d) (hl : h.length ≤ 1000) (h0 : snd 0 h = true) : run tbl k 11 [.fz (.str (md q)), .fz d] = .ok (.fz (iw (gone q [] h))) [.un, .un] := by
  obtain ⟨j, rfl⟩ : ∃ j, k = j + 1 := ⟨k - 1, by omega⟩
  rw [run_def (fd := fd_letters_out) rfl rfl]
  have e1 := sure (k := j) (by omega) hd (by omega) h0
  have e2 := standings_in (k := j) (by omega) (q := q) hl
  have e3 : compR [4, 5] (.tp [.nm 4, .nm 5]) (evTs (run tbl j) [.e (.pn peq [.pn pidx [.var 5, .lit (.int 0)], .lit (.str (Str.ofString "out"))])]) (frozen (ev (run tbl j) (.call 10 [false, false] [.var 0, .var 4]))) [.fz (.str (md q)), .fz d, .fz (.tup (hs h)), .fz (.lst ((rows q [] h).map iw)), .un, .un] (some (zipD ((rows q [] h).map iw) (hs h))) = .ok (.ow (.lst ((gone q [] h).map D.int))) [.fz (.str (md q)), .fz d, .fz (.tup (hs h)), .fz (.lst ((rows q [] h).map iw)), .un, .un] := by
    rw [comp_map gP (gF q) (fun x hx => ?_) (by rw [zipD_length]; simp; rw [szl]; omega), gone_zip]
    obtain ⟨v, d', rfl, hv⟩ := zip_snd (q := q) (w := []) h0 x hx
    refine ⟨[.fz (.str (md q)), .fz d, .fz (.tup (hs h)), .fz (.lst ((rows q [] h).map iw)), .fz (iw v), .fz d'.d], by simp, ?_, ?_, by simp⟩
    · cases d' <;> simp [Dd.d, gP]
    · cases d' with
      | inn i => simp [Dd.d, gP]
      | out =>
        intro _
        have e4 := gone_in (k := j) (by omega) (q := q) (hv rfl)
        have gf : gF q (.tup [iw v, Dd.out.d]) = .int (pick q v) := by simp [gF, iw]
        simp [e4, gf]
  simp at e3
  simp [fd_letters_out, e1, e2, e3, iw]
theorem pick_ne {q : Bool} {w : List Int} (h : w ≠ []) : pick q w ∈ w := by
  cases q with
  | true =>
    cases w with
    | nil => exact (h rfl).elim
    | cons a r => simp [pick]
  | false =>
    obtain ⟨r, a, rfl⟩ : ∃ r a, w = r ++ [a] := ⟨w.dropLast, w.getLast h, (List.dropLast_concat_getLast h).symm⟩
    simp [pick]
/-! ### what is seen -/
theorem seen_in (hk : 1 ≤ k) {q : Bool} {w : List Int} {s : Nat} : run tbl k 12 [.fz (.str (md q)), .fz (iw w), .fz (.int (s : Int))] = .ok (.fz (iw (sn q w s))) [.un, .un, .un] := by
  obtain ⟨j, rfl⟩ : ∃ j, k = j + 1 := ⟨k - 1, by omega⟩
  rw [run_def (fd := fd_seen_in) rfl rfl]
  cases q with
  | true => simp [fd_seen_in, iw, sn, cut_to, outsOf, List.range_succ]
  | false =>
    generalize hm : (if s < w.length then (w.length : Int) - (s : Int) else 0) = m
    have h0 : 0 ≤ m := by rw [← hm]; split <;> omega
    have h1 : m.toNat = w.length - s := by rw [← hm]; split <;> omega
    have h2 := cut_fromI (xs := w.map D.int) h0
    rw [h1] at h2
    simp [fd_seen_in, iw, sn, hm, h2, outsOf, List.range_succ]
theorem seen (hk : 6 ≤ k) {q : Bool} {w : List Int} {s : Nat} (hw : w.length ≤ 100000) : run tbl k 13 [.fz (.str (md q)), .fz (iw w), .fz (.int (s : Int))] = .ok (.fz (iw (sn q w s))) [.un, .un, .un] := by
  obtain ⟨j, rfl⟩ : ∃ j, k = j + 1 := ⟨k - 1, by omega⟩
  rw [run_def (fd := fd_seen) rfl rfl]
  have e1 := tup_iw (k := j) (by omega) hw
  have e2 := seen_in (k := j) (by omega) (q := q) (w := w) (s := s)
  simp [fd_seen, e1, e2, outsOf, List.range_succ]
theorem own_seen (hk : 1 ≤ k) {q : Bool} {w : List Int} {s : Nat} : run tbl k 22 [.fz (.str (md q)), .fz (iw w), .fz (.int (s : Int))] = .ok (.fz (iw (sn q w s))) [.un, .un, .un] := by
  obtain ⟨j, rfl⟩ : ∃ j, k = j + 1 := ⟨k - 1, by omega⟩
  rw [run_def (fd := fd__law_seen) rfl rfl]
  generalize hm : (if w.length < s then (w.length : Int) else (s : Int)) = m
  have h0 : 0 ≤ m := by rw [← hm]; split <;> omega
  have hl : m ≤ w.length := by rw [← hm]; split <;> omega
  cases q with
  | true =>
    have h2 := cut_toI (xs := w.map D.int) h0
    have h3 : (w.map D.int).take m.toNat = (w.take s).map D.int := by
      rw [← List.map_take]
      congr 1
      by_cases hc : w.length < s
      · rw [if_pos hc] at hm
        rw [List.take_of_length_le (i := m.toNat) (by omega), List.take_of_length_le (i := s) (by omega)]
      · rw [← hm, if_neg hc]; simp
    rw [h3] at h2
    simp [fd__law_seen, iw, sn, hm, h2, outsOf, List.range_succ]
  | false =>
    have h2 := cut_fromI (xs := w.map D.int) (i := (w.length : Int) - m) (by omega)
    have h3 : ((w.length : Int) - m).toNat = w.length - s := by rw [← hm]; split <;> omega
    rw [h3] at h2
    simp [fd__law_seen, iw, sn, hm, h2, outsOf, List.range_succ]
end
end K01

end

section
set_option maxRecDepth 100000
set_option maxHeartbeats 4000000
/-! K01, the plain law: what is heard. -/
namespace K01
open PI
open PySem (Str PyData)
section
variable {k : Nat}
/-! ### the law's rows -/
theorem own_rows_loop {C : Calls} {q : Bool} {b : Ent} : ∀ (h : List Dd) (w : List Int) (acc gacc : List D) (x y z : Ent), snd w.length h = true → acc.length + h.length ≤ 10000 → gacc.length + h.length ≤ 10000 → w.length + h.length ≤ 10000 →
    ∃ x' y' z', forLoop [] (.nm 2) (execs C [] [.set 5 (.pn pidx [.var 3, .pn pneg [.lit (.int 1)]]), .ite (.e (.pn peq [.pn pidx [.var 2, .lit (.int 0)], .lit (.str (Str.ofString "in"))])) [.app 3 (.pn padd [.var 5, .tup [.pn pidx [.var 2, .lit (.int 1)]]])] [.set 6 (.ite (.e (.pn peq [.var 0, .lit (.str (Str.ofString "queue"))])) (.lit (.int 0)) (.pn psub [.pn plen [.var 5], .lit (.int 1)])), .app 4 (.pn pidx [.var 5, .var 6]), .app 3 (.pn padd [.sl (.var 5) [] [.var 6], .sl (.var 5) [.pn padd [.var 6, .lit (.int 1)]] []])]]) (hs h) [.fz (.str (md q)), b, x, .ow (.lst (acc ++ [iw w])), .ow (.lst gacc), y, z] =
      .nx [.fz (.str (md q)), b, x', .ow (.lst (acc ++ (rows q w h).map iw)), .ow (.lst (gacc ++ (gone q w h).map D.int)), y', z']
  | [], w, acc, gacc, x, y, z, _, _, _, _ => ⟨x, y, z, by simp [rows, gone]⟩
  | .inn i :: h, w, acc, gacc, x, y, z, h0, h1, h2, h3 => by
    simp only [List.length_cons] at h1 h2 h3
    obtain ⟨x', y', z', e⟩ := own_rows_loop (C := C) (q := q) (b := b) h (w ++ [i]) (acc ++ [iw w]) gacc (.fz (Dd.inn i).d) (.fz (iw w)) z (by simpa [snd] using h0) (by simp; omega) (by omega) (by simp; omega)
    refine ⟨x', y', z', ?_⟩
    have e2 := appL_eq (i := 3) (e := [.fz (.str (md q)), b, .fz (Dd.inn i).d, .ow (.lst (acc ++ [iw w])), .ow (.lst gacc), .fz (iw w), z]) (d := iw (w ++ [i])) rfl (by simp; omega)
    simp [iw, Dd.d] at e e2
    simp [iw, tupR, szl, padd_tup, show w.length + 1 ≤ 16777216 by omega, e2, e, rows, gone, beh]
  | .out :: h, w, acc, gacc, x, y, z, h0, h1, h2, h3 => by
    simp only [List.length_cons] at h1 h2 h3
    have hw : w ≠ [] := by rintro rfl; simp [snd] at h0
    have hl : (beh q w .out).length = w.length - 1 := by rw [beh_len]
    have hp : 0 < w.length := List.length_pos_iff.mpr hw
    have h0' : snd (beh q w .out).length h = true := by
      rw [hl]
      cases w with
      | nil => exact (hw rfl).elim
      | cons a r => simpa [snd] using h0
    obtain ⟨x', y', z', e⟩ := own_rows_loop (C := C) (q := q) (b := b) h (beh q w .out) (acc ++ [iw w]) (gacc ++ [.int (pick q w)]) (.fz (Dd.out).d) (.fz (iw w)) (.fz (.int (if q then 0 else (w.length : Int) - 1))) h0' (by simp; omega) (by simp; omega) (by omega)
    refine ⟨x', y', z', ?_⟩
    have e1 := appL_eq (i := 4) (e := [.fz (.str (md q)), b, .fz (Dd.out).d, .ow (.lst (acc ++ [iw w])), .ow (.lst gacc), .fz (iw w), .fz (.int (if q then 0 else (w.length : Int) - 1))]) (d := .int (pick q w)) rfl (by omega)
    have e2 := appL_eq (i := 3) (e := [.fz (.str (md q)), b, .fz (Dd.out).d, .ow (.lst (acc ++ [iw w])), .ow (.lst (gacc ++ [.int (pick q w)])), .fz (iw w), .fz (.int (if q then 0 else (w.length : Int) - 1))]) (d := iw (beh q w .out)) rfl (by simp; omega)
    cases q with
    | true =>
      obtain ⟨a, r, rfl⟩ : ∃ a r, w = a :: r := by
        cases w with
        | nil => exact (hw rfl).elim
        | cons a r => exact ⟨a, r, rfl⟩
      have c0 : cutD (.int a :: r.map D.int) none (some 0) = [] := cut_to (m := 0)
      simp [iw, Dd.d, pick, beh] at e e1 e2
      simp [iw, e1, e2, c0, padd_tup, show r.length ≤ 16777216 by simp at h3; omega, e, rows, gone, beh, pick]
    | false =>
      obtain ⟨r, a, rfl⟩ : ∃ r a, w = r ++ [a] := ⟨w.dropLast, w.getLast hw, (List.dropLast_concat_getLast hw).symm⟩
      have c1 : ((r.length : Int) + 1 - 1) = (r.length : Int) := by omega
      have c2 : cutD (r.map D.int ++ [.int a]) none (some (r.length : Int)) = r.map D.int := by rw [cut_to, List.take_append_of_le_length (by simp), List.take_of_length_le (by simp)]
      have c3 : cutD (r.map D.int ++ [.int a]) (some ((r.length : Int) + 1)) none = [] := by
        have h := cut_from (xs := r.map D.int ++ [.int a]) (m := r.length + 1)
        rw [List.drop_eq_nil_of_le (by simp)] at h
        exact h
      simp [iw, Dd.d, pick, beh, c1] at e e1 e2
      simp [iw, e1, e2, c1, c2, c3, padd_tup, show r.length ≤ 16777216 by simp at h3; omega, e, rows, gone, beh, pick]
theorem own_rows (hk : 1 ≤ k) {q : Bool} {h : List Dd} (hl : h.length ≤ 1000) (h0 : snd 0 h = true) : run tbl k 21 [.fz (.str (md q)), .fz (.tup (hs h))] = .ok (.fz (.tup [.lst ((rows q [] h).map iw), iw (gone q [] h)])) [.un, .un] := by
  obtain ⟨j, rfl⟩ : ∃ j, k = j + 1 := ⟨k - 1, by omega⟩
  rw [run_def (fd := fd__law_rows) rfl rfl]
  obtain ⟨x, y, z, e⟩ := own_rows_loop (C := run tbl j) (q := q) (b := .fz (.tup (hs h))) h [] [] [] .un .un .un h0 (by simp; omega) (by simp; omega) (by simp; omega)
  simp [iw] at e
  simp [fd__law_rows, tupR, lstR, szl, e, iw]
/-! ### what is heard -/
def hrd (q : Bool) (s : Nat) (t : List Int) : List Int → List Dd → List D
  | _, [] => []
  | w, .inn i :: h => .tup [(Dd.inn i).d, iw (sn q (w ++ [i]) s)] :: hrd q s t (w ++ [i]) h
  | w, .out :: h => .tup [.tup [.str (Str.ofString "out"), .int (t.getD (pick q w - 1).toNat 0)], iw (sn q (beh q w .out) s)] :: hrd q s t (beh q w .out) h
/-- letters that are told -/
def Lw (t : List Int) (w : List Int) : Prop := ∀ i ∈ w, 1 ≤ i ∧ i ≤ t.length
def Lh (t : List Int) : List Dd → Prop
  | [] => True
  | .inn i :: h => (1 ≤ i ∧ i ≤ t.length) ∧ Lh t h
  | .out :: h => Lh t h
theorem Lw.inn {t w : List Int} {i : Int} (h : Lw t w) (hi : 1 ≤ i ∧ i ≤ t.length) : Lw t (w ++ [i]) := fun j hj => by
  rcases List.mem_append.mp hj with hj | hj
  · exact h j hj
  · simp at hj; subst hj; exact hi
theorem Lw.out {t w : List Int} {q : Bool} (h : Lw t w) : Lw t (beh q w .out) := fun j hj => by
  cases q with
  | true => exact h j (List.mem_of_mem_tail (by simpa [beh] using hj))
  | false => exact h j ((List.dropLast_sublist w).subset (by simpa [beh] using hj))
theorem told_at {t : List Int} {p : Int} (h : 1 ≤ p ∧ p ≤ t.length) : L2.atI (t.map D.int) (p - 1) = some (.int (t.getD (p - 1).toNat 0)) := by
  have e := atI_nat (xs := t.map D.int) (n := (p - 1).toNat)
  rw [show (((p - 1).toNat : Nat) : Int) = p - 1 by omega] at e
  rw [e, List.getElem?_map]
  have hn : p.toNat - 1 < t.length := by omega
  simp [List.getD, hn]
theorem row_facts {q : Bool} {h : List Dd} {w : List Int} {d : Dd} {R : List D} {n : Nat} (hR : R.drop n = (rows q w (d :: h)).map iw) : R[n]? = some (iw w) ∧ R[n + 1]? = some (iw (beh q w d)) ∧ R.drop (n + 1) = (rows q (beh q w d) h).map iw := by
  have e0 : R[n]? = (R.drop n)[0]? := by simp
  have e1 : R[n + 1]? = (R.drop n)[1]? := by simp
  have e2 : R.drop (n + 1) = (R.drop n).drop 1 := by simp
  have e3 : ∃ r, rows q (beh q w d) h = beh q w d :: r := by cases h <;> exact ⟨_, rfl⟩
  obtain ⟨r, e3⟩ := e3
  rw [e0, e1, e2, hR]
  simp [rows, e3]
theorem heard_loop (hk : 1 ≤ k) {q : Bool} {s : Nat} {t : List Int} {tl hd own : Ent} {R : List D} : ∀ (h : List Dd) (w : List Int) (n : Nat) (acc : List D) (x y z : Ent), R.drop n = (rows q w h).map iw → snd w.length h = true → Lw t w → Lh t h → acc.length + h.length ≤ 10000 →
    ∃ x' y' z', forLoop [] (.tp [.nm 9, .nm 4]) (execs (run tbl k) [] [.set 10 (.ite (.e (.pn peq [.pn pidx [.var 4, .lit (.int 0)], .lit (.str (Str.ofString "in"))])) (.var 4) (.tup [.lit (.str (Str.ofString "out")), .pn pidx [.var 6, .pn psub [.call 10 [false, false] [.var 0, .pn pidx [.var 7, .var 9]], .lit (.int 1)]]])), .app 8 (.tup [.var 10, .call 12 [false, false, false] [.var 0, .pn pidx [.var 7, .pn padd [.var 9, .lit (.int 1)]], .var 1]])]) (enumD n (hs h)) [.fz (.str (md q)), .fz (.int (s : Int)), tl, hd, x, own, .fz (iw t), .ow (.lst R), .ow (.lst acc), y, z] =
      .nx [.fz (.str (md q)), .fz (.int (s : Int)), tl, hd, x', own, .fz (iw t), .ow (.lst R), .ow (.lst (acc ++ hrd q s t w h)), y', z']
  | [], w, n, acc, x, y, z, _, _, _, _, _ => ⟨x, y, z, by simp [hrd, enumD]⟩
  | .inn i :: h, w, n, acc, x, y, z, hR, h0, hw, hh, hl => by
    simp only [List.length_cons] at hl
    obtain ⟨r0, r1, r2⟩ := row_facts hR
    obtain ⟨x', y', z', e⟩ := heard_loop hk (q := q) (s := s) (tl := tl) (hd := hd) (own := own) h (w ++ [i]) (n + 1) (acc ++ [.tup [(Dd.inn i).d, iw (sn q (w ++ [i]) s)]]) (.fz (Dd.inn i).d) (.fz (.int (n : Int))) (.fz (Dd.inn i).d) r2 (by simpa [snd] using h0) (hw.inn hh.1) hh.2 (by simp; omega)
    refine ⟨x', y', z', ?_⟩
    have e1 := seen_in (k := k) hk (q := q) (w := w ++ [i]) (s := s)
    have e2 := appL_eq (i := 8) (e := [.fz (.str (md q)), .fz (.int (s : Int)), tl, hd, .fz (Dd.inn i).d, own, .fz (iw t), .ow (.lst R), .ow (.lst acc), .fz (.int (n : Int)), .fz (Dd.inn i).d]) (d := .tup [(Dd.inn i).d, iw (sn q (w ++ [i]) s)]) rfl (by omega)
    have r1' : L2.atI R ((n : Int) + 1) = some (iw (w ++ [i])) := (atI_nat (xs := R) (n := n + 1)).trans r1
    simp [Dd.d] at e e2
    simp [enumD, r1', e1, e2, e, tupR, szl, hrd, Dd.d]
  | .out :: h, w, n, acc, x, y, z, hR, h0, hw, hh, hl => by
    simp only [List.length_cons] at hl
    obtain ⟨r0, r1, r2⟩ := row_facts hR
    have hne : w ≠ [] := by rintro rfl; simp [snd] at h0
    have h0' : snd (beh q w .out).length h = true := by
      rw [beh_len]
      cases w with
      | nil => exact (hne rfl).elim
      | cons a r => simpa [snd] using h0
    have hp := hw _ (pick_ne (q := q) hne)
    obtain ⟨x', y', z', e⟩ := heard_loop hk (q := q) (s := s) (tl := tl) (hd := hd) (own := own) h (beh q w .out) (n + 1) (acc ++ [.tup [.tup [.str (Str.ofString "out"), .int (t.getD (pick q w - 1).toNat 0)], iw (sn q (beh q w .out) s)]]) (.fz (Dd.out).d) (.fz (.int (n : Int))) (.fz (.tup [.str (Str.ofString "out"), .int (t.getD (pick q w - 1).toNat 0)])) r2 h0' hw.out hh (by simp; omega)
    refine ⟨x', y', z', ?_⟩
    have e1 := seen_in (k := k) hk (q := q) (w := beh q w .out) (s := s)
    have e3 := gone_in (k := k) hk (q := q) hne
    have e4 := told_at hp
    have e2 := appL_eq (i := 8) (e := [.fz (.str (md q)), .fz (.int (s : Int)), tl, hd, .fz (Dd.out).d, own, .fz (iw t), .ow (.lst R), .ow (.lst acc), .fz (.int (n : Int)), .fz (.tup [.str (Str.ofString "out"), .int (t.getD (pick q w - 1).toNat 0)])]) (d := .tup [.tup [.str (Str.ofString "out"), .int (t.getD (pick q w - 1).toNat 0)], iw (sn q (beh q w .out) s)]) rfl (by omega)
    have r1' : L2.atI R ((n : Int) + 1) = some (iw (beh q w .out)) := (atI_nat (xs := R) (n := n + 1)).trans r1
    have pt : ∀ i, pidx [iw t, .int i] = (L2.atI (t.map D.int) i).map .fz := fun _ => rfl
    simp [Dd.d] at e e2
    simp [enumD, r0, r1', e1, e2, e3, e4, e, tupR, szl, hrd, Dd.d, pt]
/-- the first letter that is not told -/
def big (n : Nat) : List Dd → Option Int
  | [] => none
  | .inn i :: h => if (n : Int) < i then some i else big n h
  | .out :: h => big n h
theorem big_no {t : List Int} {h : List Dd} (hL : Lh t h) : big t.length h = none := by
  induction h with
  | nil => rfl
  | cons d h ih =>
    cases d with
    | inn i => simp only [big]; rw [if_neg (by have := hL.1; omega)]; exact ih hL.2
    | out => exact ih hL
theorem big_loop {C : Calls} {t : List Int} {a0 a1 a2 a3 a5 a7 a8 a9 a10 : Ent} : ∀ (h : List Dd) (x : Ent), ∃ y, forLoop [] (.nm 4) (execs C [] [.ite (.and (.e (.pn peq [.pn pidx [.var 4, .lit (.int 0)], .lit (.str (Str.ofString "in"))])) (.e (.pn pgt [.pn pidx [.var 4, .lit (.int 1)], .pn plen [.var 6]]))) [.rse "NoPlace" [.pn pidx [.var 4, .lit (.int 1)]]] []]) (hs h) [a0, a1, a2, a3, x, a5, .fz (iw t), a7, a8, a9, a10] =
    match big t.length h with
    | none => .nx [a0, a1, a2, a3, y, a5, .fz (iw t), a7, a8, a9, a10]
    | some i => .ex "NoPlace" [.int i] [a0, a1, a2, a3, y, a5, .fz (iw t), a7, a8, a9, a10]
  | [], x => ⟨x, by simp [big]⟩
  | .inn i :: h, x => by
    have pt : plen [iw t] = some (.fz (.int (t.length : Int))) := by simp [iw]
    by_cases c : (t.length : Int) < i
    · refine ⟨.fz (Dd.inn i).d, ?_⟩
      simp [big, c, pt, Dd.d]
    · obtain ⟨y, e⟩ := big_loop (C := C) (t := t) (a0 := a0) (a1 := a1) (a2 := a2) (a3 := a3) (a5 := a5) (a7 := a7) (a8 := a8) (a9 := a9) (a10 := a10) h (.fz (Dd.inn i).d)
      refine ⟨y, ?_⟩
      simp [Dd.d] at e
      simp [big, c, pt, e]
  | .out :: h, x => by
    obtain ⟨y, e⟩ := big_loop (C := C) (t := t) (a0 := a0) (a1 := a1) (a2 := a2) (a3 := a3) (a5 := a5) (a7 := a7) (a8 := a8) (a9 := a9) (a10 := a10) h (.fz (Dd.out).d)
    refine ⟨y, ?_⟩
    simp [Dd.d] at e
    simp [big, e]
/-- a telling, in one of its two forms -/
def Ty (t : List Int) (d : D) : Prop := d = iw t ∨ d = lstD 1 (iw t)
theorem tup_ty (hk : 5 ≤ k) {t : List Int} {d : D} (hd : Ty t d) (hl : t.length ≤ 100000) : run tbl k 0 [.fz d] = .ok (.fz (iw t)) [.un] := by
  obtain ⟨j, rfl⟩ : ∃ j, k = j + 1 + 1 := ⟨k - 2, by omega⟩
  rcases hd with rfl | rfl
  · rw [tup_ok (tbl := tbl) (s := 0) rfl 1 j _ (plain_iw hl), tupD_iw]
  · rw [tup_ok (tbl := tbl) (s := 0) rfl 1 j _ (plain_lstD (plain_iw hl)), tup_lst, tupD_iw]
theorem heard_along (hk : 8 ≤ k) {q : Bool} {s : Nat} {t : List Int} {td hd : D} {h : List Dd} (ht : Ty t td) (hh : Hy h hd) (htl : t.length ≤ 1000) (hl : h.length ≤ 1000) (h0 : snd 0 h = true) (hL : Lh t h) :
    run tbl k 14 [.fz (.str (md q)), .fz (.int (s : Int)), .fz td, .fz hd] = .ok (.ow (.lst (hrd q s t [] h))) [.un, .un, .un, .un] := by
  obtain ⟨j, rfl⟩ : ∃ j, k = j + 1 := ⟨k - 1, by omega⟩
  rw [run_def (fd := fd_heard_along) rfl rfl]
  have e1 := sure (k := j) (by omega) hh (by omega) h0
  have e2 := tup_ty (k := j) (by omega) ht (by omega)
  have e3 := standings_in (k := j) (by omega) (q := q) hl
  obtain ⟨y, e4⟩ := big_loop (C := run tbl j) (t := t) (a0 := .fz (.str (md q))) (a1 := .fz (.int (s : Int))) (a2 := .fz td) (a3 := .fz hd) (a5 := .fz (.tup (hs h))) (a7 := .un) (a8 := .un) (a9 := .un) (a10 := .un) h .un
  rw [big_no hL] at e4
  obtain ⟨x', y', z', e5⟩ := heard_loop (k := j) (by omega) (q := q) (s := s) (t := t) (tl := .fz td) (hd := .fz hd) (own := .fz (.tup (hs h))) (R := (rows q [] h).map iw) h [] 0 [] y .un .un rfl h0 (fun i hi => by simp at hi) hL (by simp; omega)
  simp at e4 e5
  simp [fd_heard_along, e1, e2, e3, e4, e5, lstR, szl, outsOf, List.range_succ]
theorem heard_big (hk : 8 ≤ k) {q : Bool} {s : Nat} {t : List Int} {td hd : D} {h : List Dd} {i : Int} (ht : Ty t td) (hh : Hy h hd) (htl : t.length ≤ 1000) (hl : h.length ≤ 1000) (h0 : snd 0 h = true) (hL : big t.length h = some i) :
    run tbl k 14 [.fz (.str (md q)), .fz (.int (s : Int)), .fz td, .fz hd] = .ex "NoPlace" [.int i] [.un, .un, .un, .un] := by
  obtain ⟨j, rfl⟩ : ∃ j, k = j + 1 := ⟨k - 1, by omega⟩
  rw [run_def (fd := fd_heard_along) rfl rfl]
  have e1 := sure (k := j) (by omega) hh (by omega) h0
  have e2 := tup_ty (k := j) (by omega) ht (by omega)
  obtain ⟨y, e4⟩ := big_loop (C := run tbl j) (t := t) (a0 := .fz (.str (md q))) (a1 := .fz (.int (s : Int))) (a2 := .fz td) (a3 := .fz hd) (a5 := .fz (.tup (hs h))) (a7 := .un) (a8 := .un) (a9 := .un) (a10 := .un) h .un
  rw [hL] at e4
  simp at e4
  simp [fd_heard_along, e1, e2, e4, outsOf, List.range_succ]
theorem heard_unfit (hk : 8 ≤ k) {q : Bool} {s : Nat} {td hd : D} {h : List Dd} (hh : Hy h hd) (hl : h.length ≤ 1000) (h0 : snd 0 h = false) :
    run tbl k 14 [.fz (.str (md q)), .fz (.int (s : Int)), .fz td, .fz hd] = .ex "Unfit" [] [.un, .un, .un, .un] := by
  obtain ⟨j, rfl⟩ : ∃ j, k = j + 1 := ⟨k - 1, by omega⟩
  rw [run_def (fd := fd_heard_along) rfl rfl]
  have e1 := sure_no (k := j) (by omega) hh (by omega) h0
  simp [fd_heard_along, e1, outsOf, List.range_succ]
theorem told (hk : 9 ≤ k) {q : Bool} {s : Nat} {t : List Int} {td hd : D} {h : List Dd} (ht : Ty t td) (hh : Hy h hd) (htl : t.length ≤ 1000) (hl : h.length ≤ 1000) (h0 : snd 0 h = true) (hL : Lh t h) :
    run tbl k 26 [.fz (.str (md q)), .fz (.int (s : Int)), .fz td, .fz hd] = .ok (.ow (.lst (hrd q s t [] h))) [.un, .un, .un, .un] := by
  obtain ⟨j, rfl⟩ : ∃ j, k = j + 1 := ⟨k - 1, by omega⟩
  rw [run_def (fd := fd__law_told) rfl rfl]
  have e1 := heard_along (k := j) (by omega) (q := q) (s := s) ht hh htl hl h0 hL
  simp [fd__law_told, e1, outsOf, List.range_succ]
theorem ne_up : ¬ (Str.ofString "Unfit" = Str.ofString "NoPlace") := by decide
theorem told_big (hk : 9 ≤ k) {q : Bool} {s : Nat} {t : List Int} {td hd : D} {h : List Dd} {i : Int} (ht : Ty t td) (hh : Hy h hd) (htl : t.length ≤ 1000) (hl : h.length ≤ 1000) (h0 : snd 0 h = true) (hL : big t.length h = some i) :
    run tbl k 26 [.fz (.str (md q)), .fz (.int (s : Int)), .fz td, .fz hd] = .ok (.ow (.lst [.str (Str.ofString "place"), .int i])) [.un, .un, .un, .un] := by
  obtain ⟨j, rfl⟩ : ∃ j, k = j + 1 := ⟨k - 1, by omega⟩
  rw [run_def (fd := fd__law_told) rfl rfl]
  have e1 := heard_big (k := j) (by omega) (q := q) (s := s) ht hh htl hl h0 hL
  simp [fd__law_told, e1, outsOf, List.range_succ, clauses, suiteD, hiDs, hiD, unSlot, ne_up]
theorem told_unfit (hk : 9 ≤ k) {q : Bool} {s : Nat} {td hd : D} {h : List Dd} (hh : Hy h hd) (hl : h.length ≤ 1000) (h0 : snd 0 h = false) :
    run tbl k 26 [.fz (.str (md q)), .fz (.int (s : Int)), .fz td, .fz hd] = .ok (.ow (.lst [.str (Str.ofString "unfit"), .bl true])) [.un, .un, .un, .un] := by
  obtain ⟨j, rfl⟩ : ∃ j, k = j + 1 := ⟨k - 1, by omega⟩
  rw [run_def (fd := fd__law_told) rfl rfl]
  have e1 := heard_unfit (k := j) (by omega) (q := q) (s := s) (td := td) hh hl h0
  simp [fd__law_told, e1, outsOf, List.range_succ, clauses, suiteD, hiDs, hiD, unSlot]
/-! ### the law's own reading of what is heard -/
theorem own_heard_loop (hk : 1 ≤ k) {q : Bool} {s : Nat} {t : List Int} {hd : Ent} {R G : List D} : ∀ (h : List Dd) (w : List Int) (n m : Nat) (acc : List D) (x y z : Ent), R.drop n = (rows q w h).map iw → G.drop m = (gone q w h).map D.int → snd w.length h = true → Lw t w → Lh t h → acc.length + h.length ≤ 10000 →
    ∃ c' x' y' z', forLoop [] (.tp [.nm 8, .nm 9]) (execs (run tbl k) [] [.set 10 (.var 9), .ite (.e (.pn peq [.pn pidx [.var 9, .lit (.int 0)], .lit (.str (Str.ofString "out"))])) [.par 10 7 (.tup [.lit (.str (Str.ofString "out")), .pn pidx [.var 2, .pn psub [.pn pidx [.var 5, .var 7], .lit (.int 1)]]]) (.pn padd [.var 7, .lit (.int 1)])] [], .app 6 (.tup [.var 10, .call 22 [false, false, false] [.var 0, .pn pidx [.var 4, .pn padd [.var 8, .lit (.int 1)]], .var 1]])]) (enumD n (hs h)) [.fz (.str (md q)), .fz (.int (s : Int)), .fz (iw t), hd, .fz (.lst R), .fz (.tup G), .ow (.lst acc), .fz (.int (m : Int)), x, y, z] =
      .nx [.fz (.str (md q)), .fz (.int (s : Int)), .fz (iw t), hd, .fz (.lst R), .fz (.tup G), .ow (.lst (acc ++ hrd q s t w h)), c', x', y', z']
  | [], w, n, m, acc, x, y, z, _, _, _, _, _, _ => ⟨.fz (.int (m : Int)), x, y, z, by simp [hrd, enumD]⟩
  | .inn i :: h, w, n, m, acc, x, y, z, hR, hG, h0, hw, hh, hl => by
    simp only [List.length_cons] at hl
    obtain ⟨r0, r1, r2⟩ := row_facts hR
    obtain ⟨c', x', y', z', e⟩ := own_heard_loop hk (q := q) (s := s) (hd := hd) h (w ++ [i]) (n + 1) m (acc ++ [.tup [(Dd.inn i).d, iw (sn q (w ++ [i]) s)]]) (.fz (.int (n : Int))) (.fz (Dd.inn i).d) (.fz (Dd.inn i).d) r2 (by simpa [gone] using hG) (by simpa [snd] using h0) (hw.inn hh.1) hh.2 (by simp; omega)
    refine ⟨c', x', y', z', ?_⟩
    have e1 := own_seen (k := k) hk (q := q) (w := w ++ [i]) (s := s)
    have e2 := appL_eq (i := 6) (e := [.fz (.str (md q)), .fz (.int (s : Int)), .fz (iw t), hd, .fz (.lst R), .fz (.tup G), .ow (.lst acc), .fz (.int (m : Int)), .fz (.int (n : Int)), .fz (Dd.inn i).d, .fz (Dd.inn i).d]) (d := .tup [(Dd.inn i).d, iw (sn q (w ++ [i]) s)]) rfl (by omega)
    have r1' : L2.atI R ((n : Int) + 1) = some (iw (w ++ [i])) := (atI_nat (xs := R) (n := n + 1)).trans r1
    simp [Dd.d] at e e2
    simp [enumD, r1', e1, e2, e, tupR, szl, hrd, Dd.d]
  | .out :: h, w, n, m, acc, x, y, z, hR, hG, h0, hw, hh, hl => by
    simp only [List.length_cons] at hl
    obtain ⟨r0, r1, r2⟩ := row_facts hR
    have hne : w ≠ [] := by rintro rfl; simp [snd] at h0
    have h0' : snd (beh q w .out).length h = true := by
      rw [beh_len]
      cases w with
      | nil => exact (hne rfl).elim
      | cons a r => simpa [snd] using h0
    have hp := hw _ (pick_ne (q := q) hne)
    have g0 : G[m]? = some (.int (pick q w)) := by
      have : G[m]? = (G.drop m)[0]? := by simp
      rw [this, hG]; simp [gone]
    have g1 : G.drop (m + 1) = (gone q (beh q w .out) h).map D.int := by
      have : G.drop (m + 1) = (G.drop m).drop 1 := by simp
      rw [this, hG]; simp [gone]
    obtain ⟨c', x', y', z', e⟩ := own_heard_loop hk (q := q) (s := s) (hd := hd) h (beh q w .out) (n + 1) (m + 1) (acc ++ [.tup [.tup [.str (Str.ofString "out"), .int (t.getD (pick q w - 1).toNat 0)], iw (sn q (beh q w .out) s)]]) (.fz (.int (n : Int))) (.fz (Dd.out).d) (.fz (.tup [.str (Str.ofString "out"), .int (t.getD (pick q w - 1).toNat 0)])) r2 g1 h0' hw.out hh (by simp; omega)
    refine ⟨c', x', y', z', ?_⟩
    have e1 := own_seen (k := k) hk (q := q) (w := beh q w .out) (s := s)
    have e4 := told_at hp
    have e2 := appL_eq (i := 6) (e := [.fz (.str (md q)), .fz (.int (s : Int)), .fz (iw t), hd, .fz (.lst R), .fz (.tup G), .ow (.lst acc), .fz (.int ((m : Int) + 1)), .fz (.int (n : Int)), .fz (Dd.out).d, .fz (.tup [.str (Str.ofString "out"), .int (t.getD (pick q w - 1).toNat 0)])]) (d := .tup [.tup [.str (Str.ofString "out"), .int (t.getD (pick q w - 1).toNat 0)], iw (sn q (beh q w .out) s)]) rfl (by omega)
    have r1' : L2.atI R ((n : Int) + 1) = some (iw (beh q w .out)) := (atI_nat (xs := R) (n := n + 1)).trans r1
    have pt : ∀ i, pidx [iw t, .int i] = (L2.atI (t.map D.int) i).map .fz := fun _ => rfl
    simp [Dd.d] at e e2
    simp [enumD, g0, r1', e1, e2, e4, e, tupR, szl, hrd, Dd.d, pt]
theorem own_heard (hk : 2 ≤ k) {q : Bool} {s : Nat} {t : List Int} {h : List Dd} (htl : t.length ≤ 1000) (hl : h.length ≤ 1000) (h0 : snd 0 h = true) (hL : Lh t h) :
    run tbl k 23 [.fz (.str (md q)), .fz (.int (s : Int)), .fz (iw t), .fz (.tup (hs h))] = .ok (.ow (.lst (hrd q s t [] h))) [.un, .un, .un, .un] := by
  obtain ⟨j, rfl⟩ : ∃ j, k = j + 1 := ⟨k - 1, by omega⟩
  rw [run_def (fd := fd__law_heard) rfl rfl]
  have e1 := own_rows (k := j) (by omega) (q := q) hl h0
  obtain ⟨c', x', y', z', e2⟩ := own_heard_loop (k := j) (by omega) (q := q) (s := s) (t := t) (hd := .fz (.tup (hs h))) (R := (rows q [] h).map iw) (G := (gone q [] h).map D.int) h [] 0 0 [] .un .un .un rfl rfl h0 (fun i hi => by simp at hi) hL (by simp; omega)
  simp at e2
  simp [fd__law_heard, e1, lstR, szl, iw, outsOf, List.range_succ] at e2 ⊢
  rw [e2]; simp [outsOf, List.range_succ]
end
end K01

end

section
set_option maxRecDepth 100000
set_option maxHeartbeats 4000000
/-! K01, the plain law: what is drawn. -/
namespace K01
open PI
open PySem (Str PyData)
/-! ### how many stand at the end -/
def cnt : Nat → List Dd → Option Nat
  | n, [] => some n
  | n, .inn _ :: h => cnt (n + 1) h
  | 0, .out :: _ => none
  | n + 1, .out :: h => cnt n h
theorem cnt_app : ∀ {h g : List Dd} {n : Nat}, cnt n (h ++ g) = (cnt n h).bind fun m => cnt m g
  | [], g, n => rfl
  | .inn i :: h, g, n => by simp [cnt, cnt_app]
  | .out :: h, g, 0 => by simp [cnt]
  | .out :: h, g, n + 1 => by simp [cnt, cnt_app]
theorem snd_cnt : ∀ {h : List Dd} {n : Nat}, snd n h = (cnt n h).isSome
  | [], n => rfl
  | .inn i :: h, n => by simp [snd, cnt, snd_cnt]
  | .out :: h, 0 => rfl
  | .out :: h, n + 1 => by simp [snd, cnt, snd_cnt]
theorem hs_app {h g : List Dd} : hs (h ++ g) = hs h ++ hs g := by simp [hs]
theorem Lh_app {t : List Int} : ∀ {h g : List Dd}, Lh t (h ++ g) ↔ Lh t h ∧ Lh t g
  | [], g => by simp [Lh]
  | .inn i :: h, g => by simp [Lh, Lh_app, and_assoc]
  | .out :: h, g => by simp [Lh, Lh_app]
section
variable {k : Nat}
theorem take16 (hk : 1 ≤ k) {b : Nat} {low : Int} {u : D} (h : Urn b u) (hb : 1 ≤ b) (h0 : 0 < low) (h1 : low < 2 ^ 29) :
    ∃ (r : Int) (u' : D), run tbl k 16 [.ow u, .fz (.int low)] = .ok (.fz (.int r)) [.ow u', .un] ∧ 0 ≤ r ∧ r < low ∧ Urn (b - 1) u' := by
  obtain ⟨j, rfl⟩ : ∃ j, k = j + 1 := ⟨k - 1, by omega⟩
  exact take_ok (tbl := tbl) (t := 16) rfl j h hb h0 h1
theorem history (hk : 2 ≤ k) {b : Nat} {u : D} {l : Int} (hu : Urn b u) (hb : 200 ≤ b) (hl0 : 1 ≤ l) (hl1 : l ≤ 100) :
    ∃ h u', run tbl k 24 [.ow u, .fz (.int l), .fz (.int 58)] = .ok (.fz (.tup (hs h))) [.ow u', .un, .un] ∧ snd 0 h = true ∧ h.length ≤ 58 ∧ (∀ t : List Int, (t.length : Int) = l → Lh t h) ∧ Urn (b - 200) u' := by
  obtain ⟨j, rfl⟩ : ∃ j, k = j + 1 := ⟨k - 1, by omega⟩
  rw [run_def (fd := fd__law_history) rfl rfl]
  obtain ⟨r, u1, e1, r0, r1, hu1⟩ := take16 (k := j) (by omega) hu (by omega) (low := 3) (by omega) (by omega)
  obtain ⟨m, u2, e2, m0, m1, hu2⟩ := take16 (k := j) (by omega) hu1 (by omega) (low := 59) (by omega) (by omega)
  have := forLoop_inv (pw := [0]) (tg := .nm 3) (b := execs (run tbl j) [0] [.ite (.and (.e (.pn pgt [.var 5, .lit (.int 0)])) (.e (.pn plt [.call 16 [true, false] [.var 0, .lit (.int 4)], .var 6]))) [.app 4 (.tup [.lit (.str (Str.ofString "out"))]), .set 5 (.pn psub [.var 5, .lit (.int 1)])] [.app 4 (.tup [.lit (.str (Str.ofString "in")), .pn padd [.lit (.int 1), .call 16 [true, false] [.var 0, .var 1]]]), .set 5 (.pn padd [.var 5, .lit (.int 1)])]])
    (fun rest e => ∃ u x h n, e = [.ow u, .fz (.int l), .fz (.int 58), x, .ow (.lst (hs h)), .fz (.int ((n : Nat) : Int)), .fz (.int (1 + r))] ∧ Urn (b - 2 - 2 * h.length) u ∧ cnt 0 h = some n ∧ h.length + rest.length ≤ 58 ∧ (∀ t : List Int, (t.length : Int) = l → Lh t h)) (fun x rest e => by
      rintro ⟨u, y, h, n, rfl, hu, hc, hz, hL⟩
      simp only [List.length_cons] at hz
      refine ⟨_, by simp; rfl, ?_⟩
      -- a letter comes in
      have inn : ∀ u, Urn (b - 2 - 2 * h.length - 1) u → ∃ r u', run tbl j 16 [.ow u, .fz (.int l)] = .ok (.fz (.int r)) [.ow u', .un] ∧ 0 ≤ r ∧ r < l ∧ Urn (b - 2 - 2 * h.length - 1 - 1) u' := fun u hu => take16 (k := j) (by omega) hu (by omega) (low := l) (by omega) (by omega)
      by_cases hn : 0 < (n : Int)
      · obtain ⟨p, u', q1, p0, p1, hu'⟩ := take16 (k := j) (by omega) hu (by omega) (low := 4) (by omega) (by omega)
        by_cases hp : p < 1 + r
        · obtain ⟨n', rfl⟩ : ∃ n', n = n' + 1 := ⟨n - 1, by omega⟩
          have a1 := appL_eq (i := 4) (e := [.ow u', .fz (.int l), .fz (.int 58), .fz x, .ow (.lst (hs h)), .fz (.int ((n' + 1 : Nat) : Int)), .fz (.int (1 + r))]) (d := (Dd.out).d) rfl (by simp; omega)
          refine ⟨[.ow u', .fz (.int l), .fz (.int 58), .fz x, .ow (.lst (hs (h ++ [.out]))), .fz (.int (n' : Int)), .fz (.int (1 + r))], .inl ?_, u', .fz x, h ++ [.out], n', rfl, ?_, ?_, ?_, ?_⟩
          · have c1 : ((n' : Int) + 1 - 1) = n' := by omega
            have c2 : (0 : Int) < (n' : Int) + 1 := by omega
            simp [Dd.d] at a1
            simp [q1, hp, c2, tupR, szl, a1, c1, hs_app]
          · exact hu'.mono (by simp; omega)
          · rw [cnt_app, hc]; rfl
          · simp; omega
          · intro t ht; rw [Lh_app]; exact ⟨hL t ht, trivial⟩
        · obtain ⟨s, u2', q2, s0, s1, hu2'⟩ := inn u' (hu'.mono (by omega))
          have a1 := appL_eq (i := 4) (e := [.ow u2', .fz (.int l), .fz (.int 58), .fz x, .ow (.lst (hs h)), .fz (.int (n : Int)), .fz (.int (1 + r))]) (d := (Dd.inn (1 + s)).d) rfl (by simp; omega)
          refine ⟨[.ow u2', .fz (.int l), .fz (.int 58), .fz x, .ow (.lst (hs (h ++ [.inn (1 + s)]))), .fz (.int ((n + 1 : Nat) : Int)), .fz (.int (1 + r))], .inl ?_, u2', .fz x, h ++ [.inn (1 + s)], n + 1, rfl, ?_, ?_, ?_, ?_⟩
          · simp [Dd.d] at a1
            have hn' : 0 < n := by omega
            simp [q1, hp, hn', q2, tupR, szl, a1, hs_app]
          · exact hu2'.mono (by simp; omega)
          · rw [cnt_app, hc]; rfl
          · simp; omega
          · intro t ht; rw [Lh_app]; exact ⟨hL t ht, by simp [Lh]; omega⟩
      · obtain ⟨s, u2', q2, s0, s1, hu2'⟩ := inn u (hu.mono (by omega))
        obtain rfl : n = 0 := by omega
        have a1 := appL_eq (i := 4) (e := [.ow u2', .fz (.int l), .fz (.int 58), .fz x, .ow (.lst (hs h)), .fz (.int ((0 : Nat) : Int)), .fz (.int (1 + r))]) (d := (Dd.inn (1 + s)).d) rfl (by simp; omega)
        refine ⟨[.ow u2', .fz (.int l), .fz (.int 58), .fz x, .ow (.lst (hs (h ++ [.inn (1 + s)]))), .fz (.int ((0 + 1 : Nat) : Int)), .fz (.int (1 + r))], .inl ?_, u2', .fz x, h ++ [.inn (1 + s)], 0 + 1, rfl, ?_, ?_, ?_, ?_⟩
        · simp [Dd.d] at a1
          simp [q2, tupR, szl, a1, hs_app]
        · exact hu2'.mono (by simp; omega)
        · rw [cnt_app, hc]; rfl
        · simp; omega
        · intro t ht; rw [Lh_app]; exact ⟨hL t ht, by simp [Lh]; omega⟩)
    (xs := rangeD 0 m.toNat) (e := [.ow u2, .fz (.int l), .fz (.int 58), .un, .ow (.lst []), .fz (.int 0), .fz (.int (1 + r))]) ⟨u2, .un, [], 0, rfl, hu2.mono (by simp; omega), rfl, by rw [rangeD_length]; simp; omega, fun _ _ => trivial⟩
  obtain ⟨e', h1, u', x, h, n, rfl, h2, h3, h4, h5⟩ := this
  refine ⟨h, u', ?_, by rw [snd_cnt, h3]; rfl, by simpa using h4, h5, h2.mono (by simp at h4; omega)⟩
  have hr := ikRange1_int (j := m) (by omega) (by omega)
  simp [fd__law_history, lstR, szl, e1, e2, hr, h1, outsOf, List.range_succ]
theorem intsD_map : ∀ {t : List Int}, intsD (t.map D.int) = some t
  | [] => rfl
  | i :: t => by simp [intsD, intsD_map]
theorem foldl_max : ∀ {t : List Int} {a B : Int}, a < B → (∀ i ∈ t, i < B) → a ≤ t.foldl max a ∧ t.foldl max a < B
  | [], a, B, h, _ => ⟨Int.le_refl _, h⟩
  | i :: t, a, B, h, h2 => by
    have := foldl_max (t := t) (a := max a i) (B := B) (by have := h2 i (by simp); omega) (fun j hj => h2 j (by simp [hj]))
    simp only [List.foldl_cons]
    omega
theorem telling (hk : 2 ≤ k) {b : Nat} {u : D} {l : Int} (hu : Urn b u) (hb : 200 ≤ b) (hl0 : 1 ≤ l) (hl1 : l ≤ 100) :
    ∃ t u', run tbl k 25 [.ow u, .fz (.int l)] = .ok (.fz (iw t)) [.ow u', .un] ∧ (t.length : Int) = l ∧ Urn (b - 200) u' := by
  obtain ⟨j, rfl⟩ : ∃ j, k = j + 1 := ⟨k - 1, by omega⟩
  rw [run_def (fd := fd__law_telling) rfl rfl]
  have := forLoop_inv (pw := [0]) (tg := .nm 3) (b := execs (run tbl j) [0] [.app 2 (.call 16 [true, false] [.var 0, .pn padd [.pn pmax1 [.var 2], .lit (.int 2)]])])
    (fun rest e => ∃ u x t, e = [.ow u, .fz (.int l), .ow (.lst (t.map D.int)), x] ∧ Urn (b - t.length) u ∧ t.length + rest.length = l ∧ 1 ≤ t.length ∧ (∀ i ∈ t, 0 ≤ i ∧ i < (t.length : Int))) (fun x rest e => by
      rintro ⟨u, y, t, rfl, hu, hz, ht, hi⟩
      simp only [List.length_cons] at hz
      refine ⟨_, by simp; rfl, ?_⟩
      cases t with
      | nil => simp at ht
      | cons a t =>
        have ha := hi a (by simp)
        have hm := foldl_max (t := t) (a := a) (B := ((a :: t).length : Int)) ha.2 (fun i h => (hi i (by simp [h])).2)
        obtain ⟨r, u', q1, r0, r1, hu'⟩ := take16 (k := j) (by omega) hu (by omega) (low := t.foldl max a + 2) (by omega) (by omega)
        have pm : pmax1 [.lst (.int a :: t.map D.int)] = some (.fz (.int (t.foldl max a))) := by
          simp [pmax1, intsD, intsD_map]
        have a1 := appL_eq (i := 2) (e := [.ow u', .fz (.int l), .ow (.lst ((a :: t).map D.int)), .fz x]) (d := .int r) rfl (by simp at hz ⊢; omega)
        refine ⟨[.ow u', .fz (.int l), .ow (.lst ((a :: t ++ [r]).map D.int)), .fz x], .inl ?_, u', .fz x, a :: t ++ [r], rfl, ?_, ?_, ?_, ?_⟩
        · simp at a1
          simp [pm, q1, a1]
        · exact hu'.mono (by simp; omega)
        · simp at hz ⊢; omega
        · simp
        · intro i hi'
          rcases List.mem_append.mp hi' with h | h
          · have := hi i h
            simp at this ⊢; omega
          · simp at h; subst h; simp at hm ⊢; omega)
    (xs := rangeD 0 (l - 1).toNat) (e := [.ow u, .fz (.int l), .ow (.lst [.int 0]), .un]) ⟨u, .un, [0], rfl, hu.mono (by simp), by rw [rangeD_length]; simp; omega, by simp, by simp⟩
  obtain ⟨e', h1, u', x, t, rfl, h2, h3, h4, h5⟩ := this
  simp at h3
  refine ⟨t, u', ?_, h3, h2.mono (by omega)⟩
  have hr := ikRange1_int (j := l - 1) (by omega) (by omega)
  simp at h1
  simp [fd__law_telling, lstR, szl, hr, h1, iw, outsOf, List.range_succ]
/-! ### puts and outs -/
theorem puts (hk : 1 ≤ k) {w : List Int} (hw : w.length ≤ 100000) : run tbl k 4 [.fz (iw w)] = .ok (.fz (.tup (hs (w.map .inn)))) [.un] := by
  obtain ⟨j, rfl⟩ : ∃ j, k = j + 1 := ⟨k - 1, by omega⟩
  rw [run_def (fd := fd_puts) rfl rfl]
  have e1 : compR [1] (.nm 1) (evTs (run tbl j) []) (frozen (ev (run tbl j) (.tup [.lit (.str (Str.ofString "in")), .var 1]))) [.fz (iw w), .un] (some (w.map D.int)) = .ok (.ow (.lst ((w.map D.int).map fun x => .tup [.str (Str.ofString "in"), x]))) [.fz (iw w), .un] :=
    comp_map1 (fun x => .tup [.str (Str.ofString "in"), x]) (fun x hx => ⟨[.fz (iw w), .fz x], by simp, by simp [tupR, szl], by simp⟩) (by rw [szl]; simp; omega)
  have e2 : (w.map D.int).map (fun x => D.tup [.str (Str.ofString "in"), x]) = hs (w.map .inn) := by simp [hs, Function.comp_def, Dd.d]
  rw [e2] at e1
  have iv : ikVal [iw w] = some (w.map D.int) := rfl
  simp at e1
  simp [fd_puts, iv, e1]
theorem outs (hk : 1 ≤ k) : run tbl k 5 [.fz (.int 1)] = .ok (.fz (.tup [.tup [.str (Str.ofString "out")]])) [.un] := by
  obtain ⟨j, rfl⟩ : ∃ j, k = j + 1 := ⟨k - 1, by omega⟩
  rw [run_def (fd := fd_outs) rfl rfl]
  have e1 := pmulX_tup (xs := [.tup [.str (Str.ofString "out")]]) (k := 1) (by decide) (by decide)
  simp [fd_outs, tupR, szl, e1]
end
theorem snd_puts : ∀ {w : List Int} {g : List Dd} {n : Nat}, snd n (w.map .inn ++ g) = snd (n + w.length) g
  | [], g, n => rfl
  | i :: w, g, n => by
    simp only [List.map_cons, List.cons_append, snd, List.length_cons]
    rw [snd_puts]
    congr 1; omega
theorem snd_outs : ∀ {m n : Nat}, m ≤ n → snd n (List.replicate m .out) = true
  | 0, n, _ => by cases n <;> rfl
  | m + 1, 0, h => by omega
  | m + 1, n + 1, h => by simp only [List.replicate_succ, snd]; exact snd_outs (by omega)
theorem fin_puts {q : Bool} : ∀ {w v : List Int} {g : List Dd}, fin q v (w.map .inn ++ g) = fin q (v ++ w) g
  | [], v, g => by simp
  | i :: w, v, g => by
    simp only [List.map_cons, List.cons_append, fin, beh]
    rw [fin_puts]; simp
theorem fin_outs {q : Bool} : ∀ {n : Nat} {w : List Int}, w.length = n → fin q w (List.replicate n .out) = []
  | 0, w, h => List.length_eq_zero_iff.mp h
  | n + 1, w, h => by
    simp only [List.replicate_succ, fin]
    exact fin_outs (by rw [beh_len]; simp; omega)
end K01

end

section
set_option maxRecDepth 100000
set_option maxHeartbeats 4000000
/-! K01, the plain law: the whole. -/
namespace K01
open PI
open PySem (Str PyData)
abbrev C57 : Calls := run tbl 57
/-- items of rows as plain data, and back -/
def wD : D → List Int
  | .tup xs => wOf xs
  | _ => []
@[simp] theorem wD_iw {w : List Int} : wD (iw w) = w := by simp [wD, iw]
theorem rows_mem {q : Bool} : ∀ {h : List Dd} {w v : List Int}, v ∈ rows q w h → v.length ≤ w.length + h.length
  | [], w, v, hv => by simp [rows] at hv; subst hv; simp
  | d :: h, w, v, hv => by
    simp only [rows, List.mem_cons] at hv
    rcases hv with rfl | hv
    · simp
    · have := rows_mem hv
      rw [beh_len] at this
      cases d <;> simp at this ⊢ <;> omega
theorem gone_len {q : Bool} : ∀ {h : List Dd} {w : List Int}, (gone q w h).length ≤ h.length
  | [], w => by simp [gone]
  | .inn i :: h, w => by have := gone_len (q := q) (h := h) (w := w ++ [i]); simp [gone]; omega
  | .out :: h, w => by have := gone_len (q := q) (h := h) (w := beh q w .out); simp [gone]; omega
theorem hrd_len {q : Bool} {s : Nat} {t : List Int} : ∀ {h : List Dd} {w : List Int}, (hrd q s t w h).length = h.length
  | [], w => rfl
  | .inn i :: h, w => by simp [hrd, hrd_len]
  | .out :: h, w => by simp [hrd, hrd_len]
theorem sn_len {q : Bool} {w : List Int} {s : Nat} : (sn q w s).length ≤ w.length := by cases q <;> simp [sn] <;> omega
theorem plain_hrd {q : Bool} {s n : Nat} {t : List Int} : ∀ {h : List Dd} {w : List Int}, w.length + h.length ≤ 10000 → ∀ x ∈ hrd q s t w h, plainD (n + 2) x = true
  | [], w, _, x, hx => by simp [hrd] at hx
  | .inn i :: h, w, hl, x, hx => by
    simp only [hrd, List.mem_cons] at hx
    simp only [List.length_cons] at hl
    rcases hx with rfl | hx
    · have := plain_dd (n := n) (d := .inn i)
      have h2 := plain_iw (n := n) (w := sn q (w ++ [i]) s) (by have := sn_len (q := q) (w := w ++ [i]) (s := s); simp at this; omega)
      simp [plains, this, h2, szl]
    · exact plain_hrd (by simp; omega) x hx
  | .out :: h, w, hl, x, hx => by
    simp only [hrd, List.mem_cons] at hx
    simp only [List.length_cons] at hl
    rcases hx with rfl | hx
    · have h2 := plain_iw (n := n) (w := sn q (beh q w .out) s) (by have := sn_len (q := q) (w := beh q w .out) (s := s); rw [beh_len] at this; simp at this; omega)
      simp [plains, h2, szl]
      exact lay_out
    · exact plain_hrd (by rw [beh_len]; simp; omega) x hx
theorem plain_hrds {q : Bool} {s n : Nat} {t : List Int} {h : List Dd} (hl : h.length ≤ 1000) : plainD (n + 3) (.lst (hrd q s t [] h)) = true := by
  simp only [plain_lst, Bool.and_eq_true, decide_eq_true_eq, plains_iff, hrd_len]
  exact ⟨by rw [szl]; omega, plain_hrd (by simp; omega)⟩
theorem plain_iws {n : Nat} {ws : List (List Int)} (h : ws.length ≤ 100000) (h2 : ∀ w ∈ ws, w.length ≤ 100000) : plainD (n + 2) (.lst (ws.map iw)) = true := by
  simp only [plain_lst, Bool.and_eq_true, decide_eq_true_eq, plains_iff, List.length_map]
  refine ⟨by rw [szl]; omega, fun x hx => ?_⟩
  obtain ⟨w, hw, rfl⟩ := List.mem_map.mp hx
  exact plain_iw (h2 w hw)
theorem same57 {d : D} (h : plainD 10 d = true) : C57 18 [.fz d, .fz d] = .ok (.fz (.bl true)) [.un, .un] := same_ok (tbl := tbl) (s := 18) rfl 10 46 d h
/-- the letters beyond one -/
def more : List Dd → List Int
  | [] => []
  | .inn i :: h => if 1 < i then i :: more h else more h
  | .out :: h => more h
def mP : D → Bool
  | .tup [_, .int i] => decide (1 < i)
  | _ => false
def mF : D → D
  | .tup [_, i] => i
  | _ => .non
theorem more_eq : ∀ {h : List Dd}, ((hs h).filter mP).map mF = (more h).map D.int
  | [] => rfl
  | .inn i :: h => by
    by_cases c : 1 < i
    · simp [mP, c, mF, more]; exact more_eq
    · simp [mP, c, more]; exact more_eq
  | .out :: h => by simp [mP, more]; exact more_eq
theorem more_big : ∀ {h : List Dd} {i : Int} {r : List Int}, more h = i :: r → big 1 h = some i
  | [], i, r, e => by simp [more] at e
  | .inn j :: h, i, r, e => by
    by_cases c : 1 < j
    · simp [more, c] at e
      have e1 := e.1
      subst e1
      simp [big, c]
    · simp [more, c] at e; simp [big, c]; exact more_big e
  | .out :: h, i, r, e => by simp [more] at e; simp [big]; exact more_big e
theorem more_len : ∀ {h : List Dd}, (more h).length ≤ h.length
  | [] => by simp [more]
  | .inn j :: h => by have := more_len (h := h); simp only [more]; split <;> simp <;> omega
  | .out :: h => by have := more_len (h := h); simp [more]; omega
def body2 : List S := [.unp [.nm 11, .nm 12] (.call 21 [false, false] [.var 1, .var 6]), .set 8 (.lst [.call 8 [false, false] [.var 1, .call 19 [false] [.var 6]], .call 9 [false, false] [.var 1, .var 6], .call 11 [false, false] [.var 1, .var 6], .comp [14] (.nm 14) ikVal [.sl (.var 11) [.pn pneg [.lit (.int 4)]] []] [] (.call 13 [false, false, false] [.var 1, .var 14, .var 5])]), .ite (.not (.e (.call 18 [false, false] [.var 8, .lst [.var 11, .pn pidx [.var 11, .pn pneg [.lit (.int 1)]], .var 12, .comp [14] (.nm 14) ikVal [.sl (.var 11) [.pn pneg [.lit (.int 4)]] []] [] (.call 22 [false, false, false] [.var 1, .var 14, .var 5])]]))) [.ret (.lit (.bl false))] [], .ite (.not (.e (.call 18 [false, false] [.call 26 [false, false, false, false] [.var 1, .var 5, .call 19 [false] [.var 7], .var 6], .call 23 [false, false, false, false] [.var 1, .var 5, .var 7, .var 6]]))) [.ret (.lit (.bl false))] [], .set 9 (.comp [13] (.nm 13) ikVal [.var 6] [.and (.e (.pn peq [.pn pidx [.var 13, .lit (.int 0)], .lit (.str (Str.ofString "in"))])) (.e (.pn pgt [.pn pidx [.var 13, .lit (.int 1)], .lit (.int 1)]))] (.pn pidx [.var 13, .lit (.int 1)])), .ite (.and (.e (.pn pne [.var 9, .lst []])) (.not (.e (.call 18 [false, false] [.call 26 [false, false, false, false] [.var 1, .var 5, .tup [.lit (.int 0)], .var 6], .lst [.lit (.str (Str.ofString "place")), .pn pidx [.var 9, .lit (.int 0)]]])))) [.ret (.lit (.bl false))] [], .set 10 (.pn padd [.pn pidx [.var 11, .pn pneg [.lit (.int 1)]], .pn pmulX [.tup [.lit (.int 1)], .call 16 [true, false] [.var 0, .lit (.int 3)]]]), .ite (.not (.e (.call 18 [false, false] [.call 9 [false, false] [.var 1, .pn padd [.call 4 [false] [.var 10], .pn pmulX [.call 5 [false] [.lit (.int 1)], .pn plen [.var 10]]]], .tup []]))) [.ret (.lit (.bl false))] []]
/-- [f(mode, own, shown) for own in rows[-4:]] -/
theorem seens {f : Nat} {q : Bool} {s : Nat} {ws : List (List Int)} {e : En} (he : e.length = 15) (h1 : e[1]? = some (.fz (.str (md q)))) (h5 : e[5]? = some (.fz (.int (s : Int)))) (h14 : e[14]? = some .un) (hl : ws.length ≤ 1000)
    (hf : ∀ w ∈ ws, C57 f [.fz (.str (md q)), .fz (iw w), .fz (.int (s : Int))] = .ok (.fz (iw (sn q w s))) [.un, .un, .un]) :
    compR [14] (.nm 14) (evTs C57 []) (frozen (ev C57 (.call f [false, false, false] [.var 1, .var 14, .var 5]))) e (some (ws.map iw)) = .ok (.ow (.lst (ws.map fun w => iw (sn q w s)))) e := by
  have h := comp_map1 (own := [14]) (tg := .nm 14) (C := C57) (m := frozen (ev C57 (.call f [false, false, false] [.var 1, .var 14, .var 5]))) (e := e) (fun x => iw (sn q (wD x) s)) (xs := ws.map iw) (fun x hx => by
    obtain ⟨w, hw, rfl⟩ := List.mem_map.mp hx
    have hwp : e.set 14 .un = e := by
      apply List.ext_getElem?
      intro j
      by_cases hj : j = 14
      · subst hj; rw [List.getElem?_set_self (by omega), h14]
      · rw [List.getElem?_set_ne (Ne.symm hj)]
    refine ⟨e.set 14 (.fz (iw w)), by simp [hwp], ?_, by simp⟩
    have g1 : (e.set 14 (.fz (iw w)))[1]? = some (.fz (.str (md q))) := by rw [List.getElem?_set_ne (by decide), h1]
    have g5 : (e.set 14 (.fz (iw w)))[5]? = some (.fz (.int (s : Int))) := by rw [List.getElem?_set_ne (by decide), h5]
    have g14 : (e.set 14 (.fz (iw w)))[14]? = some (.fz (iw w)) := List.getElem?_set_self (by omega)
    simp [g1, g5, g14, hf w hw]) (by rw [szl]; simp; omega)
  rw [h, List.map_map]
  simp [Function.comp_def]
theorem mode_step {q : Bool} {b s : Nat} {u : D} {h : List Dd} {t : List Int} {x2 x3 x4 x8 x9 x10 x11 x12 : Ent} (hu : Urn b u) (hb : 10 ≤ b) (hl : h.length ≤ 58) (h0 : snd 0 h = true) (ht1 : 1 ≤ t.length) (ht : t.length ≤ 100) (hL : Lh t h) :
    ∃ u' y8 y9 y10 y11 y12, execs C57 [0] body2 [.ow u, .fz (.str (md q)), x2, x3, x4, .fz (.int (s : Int)), .fz (.tup (hs h)), .fz (iw t), x8, x9, x10, x11, x12, .un, .un] = .nx [.ow u', .fz (.str (md q)), x2, x3, x4, .fz (.int (s : Int)), .fz (.tup (hs h)), .fz (iw t), y8, y9, y10, y11, y12, .un, .un] ∧ Urn (b - 1) u' := by
  obtain ⟨r, u', er, r0, r1, hu'⟩ := take16 (k := 57) (by omega) hu (by omega) (low := 3) (by omega) (by omega)
  have hR : (rows q [] h).length = h.length + 1 := rows_length
  have hmem : ∀ w ∈ (rows q [] h).drop ((rows q [] h).length - 4), w.length ≤ 1000 := fun w hw => by
    have := rows_mem (List.mem_of_mem_drop hw)
    simp at this; omega
  have e1 := own_rows (k := 57) (by omega) (q := q) (h := h) (by omega) h0
  have e2 := lists_hs (k := 57) (by omega) (h := h) (by omega)
  have e3 := standings (k := 57) (by omega) (q := q) (h := h) (d := lhs h) (.inr rfl) (by omega) h0
  have e4 := stands (k := 57) (by omega) (q := q) (h := h) (d := .tup (hs h)) (.inl rfl) (by omega) h0
  have e5 := letters_out (k := 57) (by omega) (q := q) (h := h) (d := .tup (hs h)) (.inl rfl) (by omega) h0
  have cd : cutD ((rows q [] h).map iw) (some (-4)) none = ((rows q [] h).drop ((rows q [] h).length - 4)).map iw := by
    have := cut_fromN (xs := (rows q [] h).map iw) (m := 4) (by omega)
    simp only [List.length_map] at this
    rw [List.map_drop]; exact this
  -- what is got
  obtain ⟨W, hWd⟩ : ∃ W, W = (rows q [] h).drop ((rows q [] h).length - 4) := ⟨_, rfl⟩
  rw [← hWd] at cd hmem
  have hW : W.length ≤ 1000 := by rw [hWd]; simp; omega
  obtain ⟨RL, hRL⟩ : ∃ RL, RL = (rows q [] h).map iw := ⟨_, rfl⟩
  obtain ⟨SL, hSL⟩ : ∃ SL, SL = W.map fun w => iw (sn q w s) := ⟨_, rfl⟩
  obtain ⟨WL, hWL⟩ : ∃ WL, WL = W.map iw := ⟨_, rfl⟩
  have ga : (gone q [] h).length ≤ h.length := gone_len
  have fm : fin q [] h ∈ rows q [] h := List.mem_of_getElem? (rows_last (q := q) (h := h) (w := []))
  have fl : (fin q [] h).length ≤ 58 := by have := rows_mem fm; simp at this; omega
  have p1 : plainD 9 (.lst RL) = true := by rw [hRL]; exact plain_iws (n := 7) (by omega) (fun w hw => by have := rows_mem hw; simp at this; omega)
  have p4 : plainD 9 (.lst SL) = true := by
    rw [hSL]
    have := plain_iws (n := 7) (ws := W.map fun w => sn q w s) (by simp; omega) (fun w hw => by
      obtain ⟨v, hv, rfl⟩ := List.mem_map.mp hw
      have := hmem v hv
      have := sn_len (q := q) (w := v) (s := s); omega)
    rw [List.map_map] at this
    exact this
  have rl : RL[RL.length - 1]? = some (iw (fin q [] h)) := by
    have := rows_last (q := q) (h := h) (w := [])
    rw [hRL, List.getElem?_map, List.length_map, hR, show h.length + 1 - 1 = h.length by omega, this]
    rfl
  have c1 := seens (f := 13) (q := q) (s := s) (ws := W) (e := [.ow u, .fz (.str (md q)), x2, x3, x4, .fz (.int (s : Int)), .fz (.tup (hs h)), .fz (iw t), x8, x9, x10, .fz (.lst RL), .fz (iw (gone q [] h)), .un, .un]) rfl rfl rfl rfl hW (fun w hw => seen (k := 57) (by omega) (by have := hmem w hw; omega))
  have c2 := fun G => seens (f := 22) (q := q) (s := s) (ws := W) (e := [.ow u, .fz (.str (md q)), x2, x3, x4, .fz (.int (s : Int)), .fz (.tup (hs h)), .fz (iw t), .fz G, x9, x10, .fz (.lst RL), .fz (iw (gone q [] h)), .un, .un]) rfl rfl rfl rfl hW (fun w hw => own_seen (k := 57) (by omega))
  have p2 : plainD 9 (iw (fin q [] h)) = true := plain_iw (n := 8) (by omega)
  have p3 : plainD 9 (iw (gone q [] h)) = true := plain_iw (n := 8) (by omega)
  rw [← hRL] at e1 e3 cd
  rw [← hWL] at c1 cd
  simp only [← hWL] at c2
  rw [← hSL] at c1
  simp only [← hSL] at c2
  have pG : plainD 10 (.lst [.lst RL, iw (fin q [] h), iw (gone q [] h), .lst SL]) = true := by
    show plainD (9 + 1) _ = true
    rw [plain_lst]
    simp only [plains, p1, p2, p3, p4]
    rfl
  have s1 := same57 pG
  clear hRL hSL hWL hWd
  have b1 : exec C57 [0] (.unp [.nm 11, .nm 12] (.call 21 [false, false] [.var 1, .var 6])) [.ow u, .fz (.str (md q)), x2, x3, x4, .fz (.int (s : Int)), .fz (.tup (hs h)), .fz (iw t), x8, x9, x10, x11, x12, .un, .un] = .nx [.ow u, .fz (.str (md q)), x2, x3, x4, .fz (.int (s : Int)), .fz (.tup (hs h)), .fz (iw t), x8, x9, x10, .fz (.lst RL), .fz (iw (gone q [] h)), .un, .un] := by
    simp [e1]
  have b2 : exec C57 [0] (.set 8 (.lst [.call 8 [false, false] [.var 1, .call 19 [false] [.var 6]], .call 9 [false, false] [.var 1, .var 6], .call 11 [false, false] [.var 1, .var 6], .comp [14] (.nm 14) ikVal [.sl (.var 11) [.pn pneg [.lit (.int 4)]] []] [] (.call 13 [false, false, false] [.var 1, .var 14, .var 5])])) [.ow u, .fz (.str (md q)), x2, x3, x4, .fz (.int (s : Int)), .fz (.tup (hs h)), .fz (iw t), x8, x9, x10, .fz (.lst RL), .fz (iw (gone q [] h)), .un, .un] = .nx [.ow u, .fz (.str (md q)), x2, x3, x4, .fz (.int (s : Int)), .fz (.tup (hs h)), .fz (iw t), .ow (.lst [.lst RL, iw (fin q [] h), iw (gone q [] h), .lst SL]), x9, x10, .fz (.lst RL), .fz (iw (gone q [] h)), .un, .un] := by
    simp at c1
    simp [e2, e3, e4, e5, cd, c1, lstR, szl]
  generalize hG : D.lst [.lst RL, iw (fin q [] h), iw (gone q [] h), .lst SL] = G at s1 b2
  have b3 : exec C57 [0] (.ite (.not (.e (.call 18 [false, false] [.var 8, .lst [.var 11, .pn pidx [.var 11, .pn pneg [.lit (.int 1)]], .var 12, .comp [14] (.nm 14) ikVal [.sl (.var 11) [.pn pneg [.lit (.int 4)]] []] [] (.call 22 [false, false, false] [.var 1, .var 14, .var 5])]]))) [.ret (.lit (.bl false))] []) [.ow u, .fz (.str (md q)), x2, x3, x4, .fz (.int (s : Int)), .fz (.tup (hs h)), .fz (iw t), .ow G, x9, x10, .fz (.lst RL), .fz (iw (gone q [] h)), .un, .un] = .nx [.ow u, .fz (.str (md q)), x2, x3, x4, .fz (.int (s : Int)), .fz (.tup (hs h)), .fz (iw t), .fz G, x9, x10, .fz (.lst RL), .fz (iw (gone q [] h)), .un, .un] := by
    have c2 := c2 G
    simp at c2 rl
    simp [cd, rl, c2, lstR, szl, hG, s1]
  have e6 : C57 19 [.fz (iw t)] = .ok (.ow (lstD 1 (iw t))) [.un] := lists_tup (tbl := tbl) (s := 19) rfl 0 55 (t.map D.int) (plain_iw (by omega))
  have e7 := told (k := 57) (by omega) (q := q) (s := s) (t := t) (td := lstD 1 (iw t)) (hd := .tup (hs h)) (h := h) (.inr rfl) (.inl rfl) (by omega) (by omega) h0 hL
  have e8 := own_heard (k := 57) (by omega) (q := q) (s := s) (t := t) (h := h) (by omega) (by omega) h0 hL
  have s2 := same57 (plain_hrds (q := q) (s := s) (n := 7) (t := t) (h := h) (by omega))
  have b4 : exec C57 [0] (.ite (.not (.e (.call 18 [false, false] [.call 26 [false, false, false, false] [.var 1, .var 5, .call 19 [false] [.var 7], .var 6], .call 23 [false, false, false, false] [.var 1, .var 5, .var 7, .var 6]]))) [.ret (.lit (.bl false))] []) [.ow u, .fz (.str (md q)), x2, x3, x4, .fz (.int (s : Int)), .fz (.tup (hs h)), .fz (iw t), .fz G, x9, x10, .fz (.lst RL), .fz (iw (gone q [] h)), .un, .un] = .nx [.ow u, .fz (.str (md q)), x2, x3, x4, .fz (.int (s : Int)), .fz (.tup (hs h)), .fz (iw t), .fz G, x9, x10, .fz (.lst RL), .fz (iw (gone q [] h)), .un, .un] := by
    simp [e6, e7, e8, s2]
  have b5 : exec C57 [0] (.set 9 (.comp [13] (.nm 13) ikVal [.var 6] [.and (.e (.pn peq [.pn pidx [.var 13, .lit (.int 0)], .lit (.str (Str.ofString "in"))])) (.e (.pn pgt [.pn pidx [.var 13, .lit (.int 1)], .lit (.int 1)]))] (.pn pidx [.var 13, .lit (.int 1)]))) [.ow u, .fz (.str (md q)), x2, x3, x4, .fz (.int (s : Int)), .fz (.tup (hs h)), .fz (iw t), .fz G, x9, x10, .fz (.lst RL), .fz (iw (gone q [] h)), .un, .un] = .nx [.ow u, .fz (.str (md q)), x2, x3, x4, .fz (.int (s : Int)), .fz (.tup (hs h)), .fz (iw t), .fz G, .ow (.lst ((more h).map D.int)), x10, .fz (.lst RL), .fz (iw (gone q [] h)), .un, .un] := by
    have c := comp_map (own := [13]) (tg := .nm 13) (t := evTs C57 [.and (.e (.pn peq [.pn pidx [.var 13, .lit (.int 0)], .lit (.str (Str.ofString "in"))])) (.e (.pn pgt [.pn pidx [.var 13, .lit (.int 1)], .lit (.int 1)]))]) (m := frozen (ev C57 (.pn pidx [.var 13, .lit (.int 1)]))) (e := [.ow u, .fz (.str (md q)), x2, x3, x4, .fz (.int (s : Int)), .fz (.tup (hs h)), .fz (iw t), .fz G, x9, x10, .fz (.lst RL), .fz (iw (gone q [] h)), .un, .un]) mP mF (xs := hs h) (fun x hx => by
      obtain ⟨d, _, rfl⟩ := List.mem_map.mp hx
      refine ⟨[.ow u, .fz (.str (md q)), x2, x3, x4, .fz (.int (s : Int)), .fz (.tup (hs h)), .fz (iw t), .fz G, x9, x10, .fz (.lst RL), .fz (iw (gone q [] h)), .fz d.d, .un], by simp, ?_, ?_, by simp⟩
      · cases d <;> simp [Dd.d, mP]
      · cases d <;> simp [Dd.d, mP, mF]) (by rw [szl]; simp; omega)
    rw [more_eq] at c
    simp at c
    simp [c]
  have b6 : exec C57 [0] (.ite (.and (.e (.pn pne [.var 9, .lst []])) (.not (.e (.call 18 [false, false] [.call 26 [false, false, false, false] [.var 1, .var 5, .tup [.lit (.int 0)], .var 6], .lst [.lit (.str (Str.ofString "place")), .pn pidx [.var 9, .lit (.int 0)]]])))) [.ret (.lit (.bl false))] []) [.ow u, .fz (.str (md q)), x2, x3, x4, .fz (.int (s : Int)), .fz (.tup (hs h)), .fz (iw t), .fz G, .ow (.lst ((more h).map D.int)), x10, .fz (.lst RL), .fz (iw (gone q [] h)), .un, .un] = .nx [.ow u, .fz (.str (md q)), x2, x3, x4, .fz (.int (s : Int)), .fz (.tup (hs h)), .fz (iw t), .fz G, .ow (.lst ((more h).map D.int)), x10, .fz (.lst RL), .fz (iw (gone q [] h)), .un, .un] := by
    have pm : plainD 5 (.lst ((more h).map D.int)) = true := by
      have ml := more_len (h := h)
      show plainD (4 + 1) _ = true
      simp only [plain_lst, Bool.and_eq_true, decide_eq_true_eq, plains_iff, List.length_map]
      refine ⟨by rw [szl]; omega, fun x hx => ?_⟩
      obtain ⟨i, _, rfl⟩ := List.mem_map.mp hx
      simp
    have pn := pne_plain (n := 5) (a := .lst ((more h).map D.int)) (b := .lst []) (by omega) pm rfl
    cases hm : more h with
    | nil =>
      rw [hm] at pn
      simp [D.toPy, D.toPys, PyData.eqv, PyData.eqvAll] at pn
      simp [pn, lstR, szl]
    | cons i r =>
      rw [hm] at pn
      simp [D.toPy, D.toPys, PyData.eqv, PyData.eqvAll] at pn
      have e9 := told_big (k := 57) (by omega) (q := q) (s := s) (t := [0]) (td := .tup [.int 0]) (hd := .tup (hs h)) (h := h) (i := i) (.inl rfl) (.inl rfl) (by simp) (by omega) h0 (more_big hm)
      have s3 := same57 (d := .lst [.str (Str.ofString "place"), .int i]) (by show plainD (9 + 1) _ = true; simp [plains, szl]; kernel_rfl)
      simp [pn, lstR, tupR, szl, e9, s3]
  obtain ⟨bk, ebk⟩ : ∃ bk : List Int, bk = fin q [] h ++ List.replicate r.toNat 1 := ⟨_, rfl⟩
  have hbk : bk.length ≤ 100 := by rw [ebk]; simp; omega
  have pt : ∀ v, iw v = .tup (v.map D.int) := fun _ => rfl
  have b7 : exec C57 [0] (.set 10 (.pn padd [.pn pidx [.var 11, .pn pneg [.lit (.int 1)]], .pn pmulX [.tup [.lit (.int 1)], .call 16 [true, false] [.var 0, .lit (.int 3)]]])) [.ow u, .fz (.str (md q)), x2, x3, x4, .fz (.int (s : Int)), .fz (.tup (hs h)), .fz (iw t), .fz G, .ow (.lst ((more h).map D.int)), x10, .fz (.lst RL), .fz (iw (gone q [] h)), .un, .un] = .nx [.ow u', .fz (.str (md q)), x2, x3, x4, .fz (.int (s : Int)), .fz (.tup (hs h)), .fz (iw t), .fz G, .ow (.lst ((more h).map D.int)), .fz (iw bk), .fz (.lst RL), .fz (iw (gone q [] h)), .un, .un] := by
    have m1 := pmulX_tup (xs := [.int 1]) (k := r) (by omega) (by simp; omega)
    have m2 := padd_tup (a := (fin q [] h).map D.int) (b := (List.replicate r.toNat [D.int 1]).flatten) (by simp; omega)
    have m3 : (fin q [] h).map D.int ++ (List.replicate r.toNat [D.int 1]).flatten = bk.map D.int := by simp [ebk]
    rw [m3] at m2
    have g : padd [iw (fin q [] h), .tup (List.replicate r.toNat [D.int 1]).flatten] = some (.fz (iw bk)) := m2
    simp at g m1
    simp [rl, tupR, szl, er, m1, g]
  obtain ⟨hb2, ehb⟩ : ∃ hb2 : List Dd, hb2 = bk.map .inn ++ List.replicate bk.length .out := ⟨_, rfl⟩
  have hb2l : hb2.length ≤ 200 := by rw [ehb]; simp; omega
  have f1 : snd 0 hb2 = true := by rw [ehb, snd_puts]; exact snd_outs (by omega)
  have f2 : fin q [] hb2 = [] := by rw [ehb, fin_puts]; exact fin_outs (by simp)
  have g1 := stands (k := 57) (by omega) (q := q) (h := hb2) (d := .tup (hs hb2)) (.inl rfl) (by omega) f1
  rw [f2] at g1
  have g2 := puts (k := 57) (by omega) (w := bk) (by omega)
  have g3 := outs (k := 57) (by omega)
  have s4 := same57 (d := iw []) rfl
  have b8 : exec C57 [0] (.ite (.not (.e (.call 18 [false, false] [.call 9 [false, false] [.var 1, .pn padd [.call 4 [false] [.var 10], .pn pmulX [.call 5 [false] [.lit (.int 1)], .pn plen [.var 10]]]], .tup []]))) [.ret (.lit (.bl false))] []) [.ow u', .fz (.str (md q)), x2, x3, x4, .fz (.int (s : Int)), .fz (.tup (hs h)), .fz (iw t), .fz G, .ow (.lst ((more h).map D.int)), .fz (iw bk), .fz (.lst RL), .fz (iw (gone q [] h)), .un, .un] = .nx [.ow u', .fz (.str (md q)), x2, x3, x4, .fz (.int (s : Int)), .fz (.tup (hs h)), .fz (iw t), .fz G, .ow (.lst ((more h).map D.int)), .fz (iw bk), .fz (.lst RL), .fz (iw (gone q [] h)), .un, .un] := by
    have lb : plen [iw bk] = some (.fz (.int (bk.length : Int))) := by simp [iw]
    have m1 := pmulX_tup (xs := [.tup [.str (Str.ofString "out")]]) (k := (bk.length : Int)) (by omega) (by simp; omega)
    have m2 := padd_tup (a := hs (bk.map .inn)) (b := (List.replicate bk.length [D.tup [.str (Str.ofString "out")]]).flatten) (by simp; omega)
    have m3 : hs (bk.map .inn) ++ (List.replicate bk.length [D.tup [.str (Str.ofString "out")]]).flatten = hs hb2 := by simp [ehb, hs, Dd.d]
    rw [m3] at m2
    have s5 : C57 18 [.fz (iw []), .fz (.tup [])] = .ok (.fz (.bl true)) [.un, .un] := s4
    simp at m1 m2
    simp [g2, g3, lb, m1, m2, g1, tupR, szl, s5]
  refine ⟨u', .fz G, .ow (.lst ((more h).map D.int)), .fz (iw bk), .fz (.lst RL), .fz (iw (gone q [] h)), ?_, hu'⟩
  rw [body2, execs_cons, b1, thenS_nx, execs_cons, b2, thenS_nx, execs_cons, b3, thenS_nx, execs_cons, b4, thenS_nx, execs_cons, b5, thenS_nx, execs_cons, b6, thenS_nx, execs_cons, b7, thenS_nx, execs_cons, b8, thenS_nx, execs_nil]
end K01

end

section
set_option maxRecDepth 100000
set_option maxHeartbeats 4000000
namespace K01
open PI
open PySem (Str PyData)
theorem by_hand : run tbl 58 27 [] = .ok (.fz (.bl true)) [] := by kernel_rfl
theorem hs_take {h : List Dd} {n : Nat} : (hs h).take n = hs (h.take n) := by simp [hs, List.map_take]
theorem hs_drop {h : List Dd} {n : Nat} : (hs h).drop n = hs (h.drop n) := by simp [hs, List.map_drop]
theorem Lh_take {t : List Int} : ∀ {h : List Dd} {n : Nat}, Lh t h → Lh t (h.take n)
  | h, 0, _ => by simp [Lh]
  | [], n + 1, _ => by simp [Lh]
  | .inn i :: h, n + 1, hL => ⟨hL.1, Lh_take hL.2⟩
  | .out :: h, n + 1, hL => Lh_take (h := h) hL
theorem Lh_drop {t : List Int} : ∀ {h : List Dd} {n : Nat}, Lh t h → Lh t (h.drop n)
  | h, 0, hL => hL
  | [], n + 1, _ => by simp [Lh]
  | .inn i :: h, n + 1, hL => Lh_drop (h := h) hL.2
  | .out :: h, n + 1, hL => Lh_drop (h := h) hL
theorem Lh_outs {t : List Int} : ∀ {n : Nat}, Lh t (List.replicate n .out)
  | 0 => trivial
  | n + 1 => Lh_outs (n := n)
/-- what is told of a bad history is "unfit", or else a list of pairs -/
theorem hrd_ne {q : Bool} {s : Nat} {t : List Int} {h : List Dd} (hl : h.length ≤ 1000) : peq [.lst (hrd q s t [] h), .lst [.str (Str.ofString "unfit"), .bl true]] = some (.fz (.bl false)) := by
  rw [peq_plain (n := 10) (by omega) (plain_hrds (n := 7) hl) (by show plainD (9 + 1) _ = true; simp [plains, szl]; kernel_rfl)]
  cases h with
  | nil => simp [hrd, D.toPy, D.toPys, PyData.eqv, PyData.eqvAll]
  | cons d h => cases d <;> simp [hrd, D.toPy, D.toPys, PyData.eqv, PyData.eqvAll]
theorem law_right {u : D} (hu : Urn 1000000 u) : ∃ e : Ent, run tbl 58 28 [.ow u] = .ok (.fz (.bl true)) [e] := by
  show ∃ e : Ent, run tbl (57 + 1) 28 [.ow u] = .ok (.fz (.bl true)) [e]
  rw [run_def (fd := fd__law_right) rfl rfl]
  obtain ⟨l, u1, e0, l0, l1, hu1⟩ := take16 (k := 57) (by omega) (low := 4) hu (by omega) (by omega) (by omega)
  obtain ⟨s, u2, e1, s0, s1, hu2⟩ := take16 (k := 57) (by omega) (low := 7) hu1 (by omega) (by omega) (by omega)
  obtain ⟨s, rfl⟩ : ∃ n : Nat, s = (n : Int) := ⟨s.toNat, by omega⟩
  obtain ⟨h, u3, e2, hs0, hl, hL, hu3⟩ := history (k := 57) (by omega) (l := 1 + l) hu2 (by omega) (by omega) (by omega)
  obtain ⟨t, u4, e3, htl, hu4⟩ := telling (k := 57) (by omega) (l := 1 + l) hu3 (by omega) (by omega) (by omega)
  have hLt := hL t htl
  have x0 : exec C57 [0] st0__law_right [.ow u, .un, .un, .un, .un, .un, .un, .un, .un, .un, .un, .un, .un, .un, .un] = .nx [.ow u2, .un, .un, .un, .fz (.int (1 + l)), .fz (.int (s : Int)), .un, .un, .un, .un, .un, .un, .un, .un, .un] := by simp [st0__law_right, e0, e1, tupR, szl]
  have x1 : exec C57 [0] st1__law_right [.ow u2, .un, .un, .un, .fz (.int (1 + l)), .fz (.int (s : Int)), .un, .un, .un, .un, .un, .un, .un, .un, .un] = .nx [.ow u4, .un, .un, .un, .fz (.int (1 + l)), .fz (.int (s : Int)), .fz (.tup (hs h)), .fz (iw t), .un, .un, .un, .un, .un, .un, .un] := by simp [st1__law_right, e2, e3]
  obtain ⟨u5, y8, y9, y10, y11, y12, m1, hu5⟩ := mode_step (q := true) (s := s) (h := h) (t := t) (x2 := .un) (x3 := .un) (x4 := .fz (.int (1 + l))) (x8 := .un) (x9 := .un) (x10 := .un) (x11 := .un) (x12 := .un) hu4 (by omega) hl hs0 (by omega) (by omega) hLt
  obtain ⟨u6, z8, z9, z10, z11, z12, m2, hu6⟩ := mode_step (q := false) (s := s) (h := h) (t := t) (x2 := .un) (x3 := .un) (x4 := .fz (.int (1 + l))) (x8 := y8) (x9 := y9) (x10 := y10) (x11 := y11) (x12 := y12) hu5 (by omega) hl hs0 (by omega) (by omega) hLt
  have x2 : exec C57 [0] st2__law_right [.ow u4, .un, .un, .un, .fz (.int (1 + l)), .fz (.int (s : Int)), .fz (.tup (hs h)), .fz (iw t), .un, .un, .un, .un, .un, .un, .un] = .nx [.ow u6, .fz (.str (md false)), .un, .un, .fz (.int (1 + l)), .fz (.int (s : Int)), .fz (.tup (hs h)), .fz (iw t), z8, z9, z10, z11, z12, .un, .un] := by
    show exec C57 [0] (.for_ (.nm 1) ikVal [.tup [.lit (.str (md true)), .lit (.str (md false))]] body2) _ = _
    generalize hB : execs C57 [0] body2 = B at m1 m2
    rw [exec_for, hB]
    simp [tupR, szl, m1, m2]
  obtain ⟨p, u7, e4, p0, p1, hu7⟩ := take16 (k := 57) (by omega) (low := (h.length : Int) + 1) hu6 (by omega) (by omega) (by omega)
  obtain ⟨m, u8, e5, m0, m9, hu8⟩ := take16 (k := 57) (by omega) (low := 9) hu7 (by omega) (by omega) (by omega)
  have x3 : exec C57 [0] st3__law_right [.ow u6, .fz (.str (md false)), .un, .un, .fz (.int (1 + l)), .fz (.int (s : Int)), .fz (.tup (hs h)), .fz (iw t), z8, z9, z10, z11, z12, .un, .un] = .nx [.ow u7, .fz (.str (md false)), .fz (.int p), .un, .fz (.int (1 + l)), .fz (.int (s : Int)), .fz (.tup (hs h)), .fz (iw t), z8, z9, z10, z11, z12, .un, .un] := by simp [st3__law_right, e4]
  let bad : List Dd := h.take p.toNat ++ List.replicate (1 + m).toNat .out ++ h.drop p.toNat
  have hbl : bad.length ≤ 200 := by simp [bad]; omega
  have hLb : Lh t bad := Lh_app.mpr ⟨Lh_app.mpr ⟨Lh_take hLt, Lh_outs⟩, Lh_drop hLt⟩
  have x4 : exec C57 [0] st4__law_right [.ow u7, .fz (.str (md false)), .fz (.int p), .un, .fz (.int (1 + l)), .fz (.int (s : Int)), .fz (.tup (hs h)), .fz (iw t), z8, z9, z10, z11, z12, .un, .un] = .nx [.ow u8, .fz (.str (md false)), .fz (.int p), .fz (.tup (hs bad)), .fz (.int (1 + l)), .fz (.int (s : Int)), .fz (.tup (hs h)), .fz (iw t), z8, z9, z10, z11, z12, .un, .un] := by
    have c1 := cut_toI (xs := hs h) p0
    have c2 := cut_fromI (xs := hs h) p0
    rw [hs_take] at c1
    rw [hs_drop] at c2
    have q1 := pmulX_tup (xs := [.tup [.str (Str.ofString "out")]]) (k := 1 + m) (by omega) (by simp; omega)
    have q2 : (List.replicate (1 + m).toNat [D.tup [.str (Str.ofString "out")]]).flatten = hs (List.replicate (1 + m).toNat .out) := by simp [hs, Dd.d]
    rw [q2] at q1
    have q3 := padd_tup (a := hs (h.take p.toNat)) (b := hs (List.replicate (1 + m).toNat .out)) (by simp; omega)
    rw [← hs_app] at q3
    have q4 := padd_tup (a := hs (h.take p.toNat ++ List.replicate (1 + m).toNat .out)) (b := hs (h.drop p.toNat)) (by simp; omega)
    rw [← hs_app] at q4
    simp [st4__law_right, c1, c2, tupR, szl, e5, q1, q3, q4, bad]
  have g1 := is_sound (k := 57) (by omega) (h := h) (d := .tup (hs h)) (.inl rfl) (by omega)
  have g2 := is_sound (k := 57) (by omega) (h := bad) (d := lhs bad) (.inr rfl) (by omega)
  have g3 := lists_hs (k := 57) (by omega) (h := bad) (by omega)
  have g4 := own_sound (k := 57) (by omega) (h := bad)
  rw [hs0] at g1
  have g5 : ∃ xs, C57 26 [.fz (.str (Str.ofString "pile")), .fz (.int (s : Int)), .fz (iw t), .fz (.tup (hs bad))] = .ok (.ow (.lst xs)) [.un, .un, .un, .un] ∧ peq [.lst xs, .lst [.str (Str.ofString "unfit"), .bl true]] = some (.fz (.bl (!snd 0 bad))) := by
    cases hb : snd 0 bad with
    | true => exact ⟨_, told (k := 57) (by omega) (q := false) (s := s) (t := t) (td := iw t) (hd := .tup (hs bad)) (h := bad) (.inl rfl) (.inl rfl) (by omega) (by omega) hb hLb, hrd_ne (by omega)⟩
    | false =>
      refine ⟨_, told_unfit (k := 57) (by omega) (q := false) (s := s) (td := iw t) (hd := .tup (hs bad)) (h := bad) (.inl rfl) (by omega) hb, ?_⟩
      kernel_rfl
  obtain ⟨xs, g5, g6⟩ := g5
  have s5 := same57 (d := .lst [.bl true, .bl (snd 0 bad), .bl (!snd 0 bad)]) (by show plainD (9 + 1) _ = true; simp [plains, szl])
  have x5 : exec C57 [0] st5__law_right [.ow u8, .fz (.str (md false)), .fz (.int p), .fz (.tup (hs bad)), .fz (.int (1 + l)), .fz (.int (s : Int)), .fz (.tup (hs h)), .fz (iw t), z8, z9, z10, z11, z12, .un, .un] = .rt (.fz (.bl true)) [.ow u8, .fz (.str (md false)), .fz (.int p), .fz (.tup (hs bad)), .fz (.int (1 + l)), .fz (.int (s : Int)), .fz (.tup (hs h)), .fz (iw t), z8, z9, z10, z11, z12, .un, .un] := by
    simp [st5__law_right, g1, g2, g3, g4, g5, g6, lstR, szl, s5]
  refine ⟨.ow u8, ?_⟩
  show finish fd__law_right (execs C57 [0] [st0__law_right, st1__law_right, st2__law_right, st3__law_right, st4__law_right, st5__law_right] [.ow u, .un, .un, .un, .un, .un, .un, .un, .un, .un, .un, .un, .un, .un, .un]) = _
  rw [execs_cons, x0, thenS_nx, execs_cons, x1, thenS_nx, execs_cons, x2, thenS_nx, execs_cons, x3, thenS_nx, execs_cons, x4, thenS_nx, execs_cons, x5, thenS_rt]
  rfl
theorem law_ok (ns : List Int) (h : ns.length ≤ 63) : ∃ outs, run tbl 59 29 [.fz (.scr (ns.map D.int))] = .ok (.fz (.bl true)) outs := by
  show ∃ outs, run tbl (58 + 1) 29 [.fz (.scr (ns.map D.int))] = .ok (.fz (.bl true)) outs
  rw [run_def (fd := fd_law) rfl rfl]
  obtain ⟨v, e1⟩ := cells_ok (tbl := tbl) (x := 17) rfl 57 h
  obtain ⟨u, e2, hu⟩ := box_ok (tbl := tbl) (x := 15) (c := 3184002) rfl 57 (cs := [v]) (by simp)
  obtain ⟨e, e3⟩ := law_right hu
  have e0 := by_hand
  simp at e1 e2
  exact ⟨_, by simp [fd_law, e0, e1, e2, e3]; rfl⟩
end K01

end

section
set_option maxHeartbeats 0
namespace K01
open PySem PySem.Spec PyProof.Rows L2 PI
/-! ### all defs -/
section
variable {P : Program} {w : World} {K : PySem.W.Frag} {mg : Str → Option Value} {base : Heap} {XC : Str → Value → Prop}
structure Dfs (K : PySem.W.Frag) (mg : Str → Option Value) : Prop where
  d_tuple_of : DefF K mg "tuple_of" st_tuple_of ["thing"]
  d_is_sound_in : DefF K mg "is_sound_in" st_is_sound_in ["history"]
  d_is_sound : DefF K mg "is_sound" st_is_sound ["history"]
  d_sure_history : DefF K mg "sure_history" st_sure_history ["history"]
  d_puts : DefF K mg "puts" st_puts ["word"]
  d_outs : DefF K mg "outs" st_outs ["many"]
  d_behind : DefF K mg "behind" st_behind ["mode", "word", "deed"]
  d_standings_in : DefF K mg "standings_in" st_standings_in ["mode", "history"]
  d_standings : DefF K mg "standings" st_standings ["mode", "history"]
  d_stands : DefF K mg "stands" st_stands ["mode", "history"]
  d_gone_in : DefF K mg "gone_in" st_gone_in ["mode", "word"]
  d_letters_out : DefF K mg "letters_out" st_letters_out ["mode", "history"]
  d_seen_in : DefF K mg "seen_in" st_seen_in ["mode", "word", "shown"]
  d_seen : DefF K mg "seen" st_seen ["mode", "word", "shown"]
  d_heard_along : DefF K mg "heard_along" st_heard_along ["mode", "shown", "telling", "history"]
  d__law_box : DefF K mg "_law_box" st__law_box ["script", "k"]
  d__law_take : DefF K mg "_law_take" st__law_take ["urn", "low_so"]
  d__law_cells : DefF K mg "_law_cells" st__law_cells ["script", "top"]
  d__law_same : DefF K mg "_law_same" st__law_same ["got", "goal"]
  d__law_lists : DefF K mg "_law_lists" st__law_lists ["matter"]
  d__law_is_sound : DefF K mg "_law_is_sound" st__law_is_sound ["history"]
  d__law_rows : DefF K mg "_law_rows" st__law_rows ["mode", "history"]
  d__law_seen : DefF K mg "_law_seen" st__law_seen ["mode", "word", "shown"]
  d__law_heard : DefF K mg "_law_heard" st__law_heard ["mode", "shown", "telling", "history"]
  d__law_history : DefF K mg "_law_history" st__law_history ["tin", "letters", "most"]
  d__law_telling : DefF K mg "_law_telling" st__law_telling ["tin", "letters"]
  d__law_told : DefF K mg "_law_told" st__law_told ["mode", "shown", "telling", "history"]
  d__law_by_hand_right : DefF K mg "_law_by_hand_right" st__law_by_hand_right []
  d__law_right : DefF K mg "_law_right" st__law_right ["tin"]
  d_law : DefF K mg "law" st_law ["script"]
theorem cx_ok (B : Bt mg) (Z : Xs K mg XC) (D : Dfs K mg) : ∀ k, FnCx P w K mg base XC (run tbl k) k names
  | 0 => FnCx.of ⟨at_zero D.d_tuple_of, at_zero D.d_is_sound_in, at_zero D.d_is_sound, at_zero D.d_sure_history, at_zero D.d_puts, at_zero D.d_outs, at_zero D.d_behind, at_zero D.d_standings_in, at_zero D.d_standings, at_zero D.d_stands, at_zero D.d_gone_in, at_zero D.d_letters_out, at_zero D.d_seen_in, at_zero D.d_seen, at_zero D.d_heard_along, at_zero D.d__law_box, at_zero D.d__law_take, at_zero D.d__law_cells, at_zero D.d__law_same, at_zero D.d__law_lists, at_zero D.d__law_is_sound, at_zero D.d__law_rows, at_zero D.d__law_seen, at_zero D.d__law_heard, at_zero D.d__law_history, at_zero D.d__law_telling, at_zero D.d__law_told, at_zero D.d__law_by_hand_right, at_zero D.d__law_right, at_zero D.d_law, trivial⟩
  | k + 1 => by
    have G := cx_ok B Z D k
    exact FnCx.of ⟨at_succ D.d_tuple_of sc_tuple_of (fd' := fd_tuple_of) rfl rfl rfl (by decide) (by decide) (ok_tuple_of B Z G),
      at_succ D.d_is_sound_in sc_is_sound_in (fd' := fd_is_sound_in) rfl rfl rfl (by decide) (by decide) (ok_is_sound_in B Z G),
      at_succ D.d_is_sound sc_is_sound (fd' := fd_is_sound) rfl rfl rfl (by decide) (by decide) (ok_is_sound B Z G),
      at_succ D.d_sure_history sc_sure_history (fd' := fd_sure_history) rfl rfl rfl (by decide) (by decide) (ok_sure_history B Z G),
      at_succ D.d_puts sc_puts (fd' := fd_puts) rfl rfl rfl (by decide) (by decide) (ok_puts B Z G),
      at_succ D.d_outs sc_outs (fd' := fd_outs) rfl rfl rfl (by decide) (by decide) (ok_outs B Z G),
      at_succ D.d_behind sc_behind (fd' := fd_behind) rfl rfl rfl (by decide) (by decide) (ok_behind B Z G),
      at_succ D.d_standings_in sc_standings_in (fd' := fd_standings_in) rfl rfl rfl (by decide) (by decide) (ok_standings_in B Z G),
      at_succ D.d_standings sc_standings (fd' := fd_standings) rfl rfl rfl (by decide) (by decide) (ok_standings B Z G),
      at_succ D.d_stands sc_stands (fd' := fd_stands) rfl rfl rfl (by decide) (by decide) (ok_stands B Z G),
      at_succ D.d_gone_in sc_gone_in (fd' := fd_gone_in) rfl rfl rfl (by decide) (by decide) (ok_gone_in B Z G),
      at_succ D.d_letters_out sc_letters_out (fd' := fd_letters_out) rfl rfl rfl (by decide) (by decide) (ok_letters_out B Z G),
      at_succ D.d_seen_in sc_seen_in (fd' := fd_seen_in) rfl rfl rfl (by decide) (by decide) (ok_seen_in B Z G),
      at_succ D.d_seen sc_seen (fd' := fd_seen) rfl rfl rfl (by decide) (by decide) (ok_seen B Z G),
      at_succ D.d_heard_along sc_heard_along (fd' := fd_heard_along) rfl rfl rfl (by decide) (by decide) (ok_heard_along B Z G),
      at_succ D.d__law_box sc__law_box (fd' := fd__law_box) rfl rfl rfl (by decide) (by decide) (ok__law_box B Z G),
      at_succ D.d__law_take sc__law_take (fd' := fd__law_take) rfl rfl rfl (by decide) (by decide) (ok__law_take B Z G),
      at_succ D.d__law_cells sc__law_cells (fd' := fd__law_cells) rfl rfl rfl (by decide) (by decide) (ok__law_cells B Z G),
      at_succ D.d__law_same sc__law_same (fd' := fd__law_same) rfl rfl rfl (by decide) (by decide) (ok__law_same B Z G),
      at_succ D.d__law_lists sc__law_lists (fd' := fd__law_lists) rfl rfl rfl (by decide) (by decide) (ok__law_lists B Z G),
      at_succ D.d__law_is_sound sc__law_is_sound (fd' := fd__law_is_sound) rfl rfl rfl (by decide) (by decide) (ok__law_is_sound B Z G),
      at_succ D.d__law_rows sc__law_rows (fd' := fd__law_rows) rfl rfl rfl (by decide) (by decide) (ok__law_rows B Z G),
      at_succ D.d__law_seen sc__law_seen (fd' := fd__law_seen) rfl rfl rfl (by decide) (by decide) (ok__law_seen B Z G),
      at_succ D.d__law_heard sc__law_heard (fd' := fd__law_heard) rfl rfl rfl (by decide) (by decide) (ok__law_heard B Z G),
      at_succ D.d__law_history sc__law_history (fd' := fd__law_history) rfl rfl rfl (by decide) (by decide) (ok__law_history B Z G),
      at_succ D.d__law_telling sc__law_telling (fd' := fd__law_telling) rfl rfl rfl (by decide) (by decide) (ok__law_telling B Z G),
      at_succ D.d__law_told sc__law_told (fd' := fd__law_told) rfl rfl rfl (by decide) (by decide) (ok__law_told B Z G),
      at_succ D.d__law_by_hand_right sc__law_by_hand_right (fd' := fd__law_by_hand_right) rfl rfl rfl (by decide) (by decide) (ok__law_by_hand_right B Z G),
      at_succ D.d__law_right sc__law_right (fd' := fd__law_right) rfl rfl rfl (by decide) (by decide) (ok__law_right B Z G),
      at_succ D.d_law sc_law (fd' := fd_law) rfl rfl rfl (by decide) (by decide) (ok_law B Z G), trivial⟩
end
/-! ### the head -/
def dd_tuple_of : He.DefD := ⟨("tuple_of", none), "tuple_of", "tuple_of", defArgs st_tuple_of, defBody st_tuple_of, defScope st_tuple_of, [], []⟩
def dd_is_sound_in : He.DefD := ⟨("is_sound_in", none), "is_sound_in", "is_sound_in", defArgs st_is_sound_in, defBody st_is_sound_in, defScope st_is_sound_in, [], []⟩
def dd_is_sound : He.DefD := ⟨("is_sound", none), "is_sound", "is_sound", defArgs st_is_sound, defBody st_is_sound, defScope st_is_sound, [], []⟩
def dd_sure_history : He.DefD := ⟨("sure_history", none), "sure_history", "sure_history", defArgs st_sure_history, defBody st_sure_history, defScope st_sure_history, [], []⟩
def dd_puts : He.DefD := ⟨("puts", none), "puts", "puts", defArgs st_puts, defBody st_puts, defScope st_puts, [], []⟩
def dd_outs : He.DefD := ⟨("outs", none), "outs", "outs", defArgs st_outs, defBody st_outs, defScope st_outs, [], []⟩
def dd_behind : He.DefD := ⟨("behind", none), "behind", "behind", defArgs st_behind, defBody st_behind, defScope st_behind, [], []⟩
def dd_standings_in : He.DefD := ⟨("standings_in", none), "standings_in", "standings_in", defArgs st_standings_in, defBody st_standings_in, defScope st_standings_in, [], []⟩
def dd_standings : He.DefD := ⟨("standings", none), "standings", "standings", defArgs st_standings, defBody st_standings, defScope st_standings, [], []⟩
def dd_stands : He.DefD := ⟨("stands", none), "stands", "stands", defArgs st_stands, defBody st_stands, defScope st_stands, [], []⟩
def dd_gone_in : He.DefD := ⟨("gone_in", none), "gone_in", "gone_in", defArgs st_gone_in, defBody st_gone_in, defScope st_gone_in, [], []⟩
def dd_letters_out : He.DefD := ⟨("letters_out", none), "letters_out", "letters_out", defArgs st_letters_out, defBody st_letters_out, defScope st_letters_out, [], []⟩
def dd_seen_in : He.DefD := ⟨("seen_in", none), "seen_in", "seen_in", defArgs st_seen_in, defBody st_seen_in, defScope st_seen_in, [], []⟩
def dd_seen : He.DefD := ⟨("seen", none), "seen", "seen", defArgs st_seen, defBody st_seen, defScope st_seen, [], []⟩
def dd_heard_along : He.DefD := ⟨("heard_along", none), "heard_along", "heard_along", defArgs st_heard_along, defBody st_heard_along, defScope st_heard_along, [], []⟩
def dd__law_box : He.DefD := ⟨("_law_box", none), "_law_box", "_law_box", defArgs st__law_box, defBody st__law_box, defScope st__law_box, [], []⟩
def dd__law_take : He.DefD := ⟨("_law_take", none), "_law_take", "_law_take", defArgs st__law_take, defBody st__law_take, defScope st__law_take, [], []⟩
def dd__law_cells : He.DefD := ⟨("_law_cells", none), "_law_cells", "_law_cells", defArgs st__law_cells, defBody st__law_cells, defScope st__law_cells, [], []⟩
def dd__law_same : He.DefD := ⟨("_law_same", none), "_law_same", "_law_same", defArgs st__law_same, defBody st__law_same, defScope st__law_same, [], []⟩
def dd__law_lists : He.DefD := ⟨("_law_lists", none), "_law_lists", "_law_lists", defArgs st__law_lists, defBody st__law_lists, defScope st__law_lists, [], []⟩
def dd__law_is_sound : He.DefD := ⟨("_law_is_sound", none), "_law_is_sound", "_law_is_sound", defArgs st__law_is_sound, defBody st__law_is_sound, defScope st__law_is_sound, [], []⟩
def dd__law_rows : He.DefD := ⟨("_law_rows", none), "_law_rows", "_law_rows", defArgs st__law_rows, defBody st__law_rows, defScope st__law_rows, [], []⟩
def dd__law_seen : He.DefD := ⟨("_law_seen", none), "_law_seen", "_law_seen", defArgs st__law_seen, defBody st__law_seen, defScope st__law_seen, [], []⟩
def dd__law_heard : He.DefD := ⟨("_law_heard", none), "_law_heard", "_law_heard", defArgs st__law_heard, defBody st__law_heard, defScope st__law_heard, [], []⟩
def dd__law_history : He.DefD := ⟨("_law_history", none), "_law_history", "_law_history", defArgs st__law_history, defBody st__law_history, defScope st__law_history, [], []⟩
def dd__law_telling : He.DefD := ⟨("_law_telling", none), "_law_telling", "_law_telling", defArgs st__law_telling, defBody st__law_telling, defScope st__law_telling, [], []⟩
def dd__law_told : He.DefD := ⟨("_law_told", none), "_law_told", "_law_told", defArgs st__law_told, defBody st__law_told, defScope st__law_told, [], []⟩
def dd__law_by_hand_right : He.DefD := ⟨("_law_by_hand_right", none), "_law_by_hand_right", "_law_by_hand_right", defArgs st__law_by_hand_right, defBody st__law_by_hand_right, defScope st__law_by_hand_right, [], []⟩
def dd__law_right : He.DefD := ⟨("_law_right", none), "_law_right", "_law_right", defArgs st__law_right, defBody st__law_right, defScope st__law_right, [], []⟩
def dd_law : He.DefD := ⟨("law", none), "law", "law", defArgs st_law, defBody st_law, defScope st_law, [], []⟩
def innerS : Stmt → Stmt
  | .ClassDef _ _ _ body .. => body.getD 0 (.Pass ⟨0, 0, 0, 0⟩)
  | s => s
abbrev sti_NoPlace : Stmt := innerS (topS 1)
def dd_init_NoPlace : He.DefD := ⟨("NoPlace", some "__init__"), "__init__", "NoPlace.__init__", defArgs sti_NoPlace, defBody sti_NoPlace, defScope sti_NoPlace, [], []⟩
def fn : List He.DefD := [dd_tuple_of, dd_is_sound_in, dd_is_sound, dd_sure_history, dd_puts, dd_outs, dd_behind, dd_standings_in, dd_standings, dd_stands, dd_gone_in, dd_letters_out, dd_seen_in, dd_seen, dd_heard_along, dd__law_box, dd__law_take, dd__law_cells, dd__law_same, dd__law_lists, dd__law_is_sound, dd__law_rows, dd__law_seen, dd__law_heard, dd__law_history, dd__law_telling, dd__law_told, dd__law_by_hand_right, dd__law_right, dd_law, dd_init_NoPlace]
def exq (K : PySem.W.Frag) : Bool := ex1B K (He.ga K "NoPlace") (He.ma K (He.ga K "NoPlace") "__init__") "place" lkBase "LookupError.__new__" && ex0B K (He.ga K "Unfit")
def exN : List Str := ["NoPlace", "Unfit"]
def xc (K : PySem.W.Frag) : Str → Value → Prop := fun x cls => x ∈ exN ∧ cls = .ref (He.ga K x)
def fa : List He.Fa := [.glo "tuple_of", .glo "is_sound_in", .glo "is_sound", .glo "sure_history", .glo "puts", .glo "outs", .glo "behind", .glo "standings_in", .glo "standings", .glo "stands", .glo "gone_in", .glo "letters_out", .glo "seen_in", .glo "seen", .glo "heard_along", .glo "_law_box", .glo "_law_take", .glo "_law_cells", .glo "_law_same", .glo "_law_lists", .glo "_law_is_sound", .glo "_law_rows", .glo "_law_seen", .glo "_law_heard", .glo "_law_history", .glo "_law_telling", .glo "_law_told", .glo "_law_by_hand_right", .glo "_law_right", .glo "law", .free "ValueError", .free "abs", .free "all", .free "bool", .free "enumerate", .free "int", .free "isinstance", .free "len", .free "list", .free "max", .free "min", .free "range", .free "str", .free "tuple", .free "zip", .glo "NoPlace", .glo "Unfit", .exm "NoPlace" "NoPlace" true, .exm "NoPlace" "Unfit" false, .exm "Unfit" "NoPlace" false, .exm "Unfit" "Unfit" true]
abbrev R : PySem.W.OpenRow := PySem.W.OpenLaw.row PySem.Challenge.rw_queuedsums_k01_whole_what_stands_and_is
abbrev hk : PySem.W.Hook := He.hookX 5 fa fn [] [] exq
def ob (s : PySem.W.SharedT) : He.AlX := He.obsX 5 fa fn [] [] exq (HandSHeadRun.getT s)
theorem ob_eq (s : PySem.W.SharedT) : ob s = hk.obs s.abs := He.obsX_eq (HandSHeadRun.getT_eq s)
def loose : List PySem.Str := ["tuple_of", "is_sound_in", "is_sound", "sure_history", "puts", "outs", "behind", "standings_in", "standings", "stands", "gone_in", "letters_out", "seen_in", "seen", "heard_along", "_law_box", "_law_take", "_law_cells", "_law_same", "_law_lists", "_law_is_sound", "_law_rows", "_law_seen", "_law_heard", "_law_history", "_law_telling", "_law_told", "_law_by_hand_right", "_law_right", "NoPlace", "Unfit"]
theorem run_eq (w : World) : HandSHeadRun.RunEq R (PySem.W.view R.prog [35]) hk ob 4000 loose w := by
  intro os
  kernel_rfl
theorem dfs {K : PySem.W.Frag} {h : Heap} {mg : Str → Option Value} (X : K.In h) (G : h.Ns mainGlobals mg) (c : He.SaysD fa fn K) : Dfs K mg where
  d_tuple_of := by
    obtain ⟨fdT, FT⟩ := c.def_ 0 (d := dd_tuple_of) rfl
    exact ⟨_, _, FT, He.glo_ok X G (c.fact 0 (f := .glo "tuple_of") rfl), FT.bindsN fun _ _ _ _ _ _ us hl => match us, hl with | [_], _ => rfl⟩
  d_is_sound_in := by
    obtain ⟨fdT, FT⟩ := c.def_ 1 (d := dd_is_sound_in) rfl
    exact ⟨_, _, FT, He.glo_ok X G (c.fact 1 (f := .glo "is_sound_in") rfl), FT.bindsN fun _ _ _ _ _ _ us hl => match us, hl with | [_], _ => rfl⟩
  d_is_sound := by
    obtain ⟨fdT, FT⟩ := c.def_ 2 (d := dd_is_sound) rfl
    exact ⟨_, _, FT, He.glo_ok X G (c.fact 2 (f := .glo "is_sound") rfl), FT.bindsN fun _ _ _ _ _ _ us hl => match us, hl with | [_], _ => rfl⟩
  d_sure_history := by
    obtain ⟨fdT, FT⟩ := c.def_ 3 (d := dd_sure_history) rfl
    exact ⟨_, _, FT, He.glo_ok X G (c.fact 3 (f := .glo "sure_history") rfl), FT.bindsN fun _ _ _ _ _ _ us hl => match us, hl with | [_], _ => rfl⟩
  d_puts := by
    obtain ⟨fdT, FT⟩ := c.def_ 4 (d := dd_puts) rfl
    exact ⟨_, _, FT, He.glo_ok X G (c.fact 4 (f := .glo "puts") rfl), FT.bindsN fun _ _ _ _ _ _ us hl => match us, hl with | [_], _ => rfl⟩
  d_outs := by
    obtain ⟨fdT, FT⟩ := c.def_ 5 (d := dd_outs) rfl
    exact ⟨_, _, FT, He.glo_ok X G (c.fact 5 (f := .glo "outs") rfl), FT.bindsN fun _ _ _ _ _ _ us hl => match us, hl with | [_], _ => rfl⟩
  d_behind := by
    obtain ⟨fdT, FT⟩ := c.def_ 6 (d := dd_behind) rfl
    exact ⟨_, _, FT, He.glo_ok X G (c.fact 6 (f := .glo "behind") rfl), FT.bindsN fun _ _ _ _ _ _ us hl => match us, hl with | [_, _, _], _ => rfl⟩
  d_standings_in := by
    obtain ⟨fdT, FT⟩ := c.def_ 7 (d := dd_standings_in) rfl
    exact ⟨_, _, FT, He.glo_ok X G (c.fact 7 (f := .glo "standings_in") rfl), FT.bindsN fun _ _ _ _ _ _ us hl => match us, hl with | [_, _], _ => rfl⟩
  d_standings := by
    obtain ⟨fdT, FT⟩ := c.def_ 8 (d := dd_standings) rfl
    exact ⟨_, _, FT, He.glo_ok X G (c.fact 8 (f := .glo "standings") rfl), FT.bindsN fun _ _ _ _ _ _ us hl => match us, hl with | [_, _], _ => rfl⟩
  d_stands := by
    obtain ⟨fdT, FT⟩ := c.def_ 9 (d := dd_stands) rfl
    exact ⟨_, _, FT, He.glo_ok X G (c.fact 9 (f := .glo "stands") rfl), FT.bindsN fun _ _ _ _ _ _ us hl => match us, hl with | [_, _], _ => rfl⟩
  d_gone_in := by
    obtain ⟨fdT, FT⟩ := c.def_ 10 (d := dd_gone_in) rfl
    exact ⟨_, _, FT, He.glo_ok X G (c.fact 10 (f := .glo "gone_in") rfl), FT.bindsN fun _ _ _ _ _ _ us hl => match us, hl with | [_, _], _ => rfl⟩
  d_letters_out := by
    obtain ⟨fdT, FT⟩ := c.def_ 11 (d := dd_letters_out) rfl
    exact ⟨_, _, FT, He.glo_ok X G (c.fact 11 (f := .glo "letters_out") rfl), FT.bindsN fun _ _ _ _ _ _ us hl => match us, hl with | [_, _], _ => rfl⟩
  d_seen_in := by
    obtain ⟨fdT, FT⟩ := c.def_ 12 (d := dd_seen_in) rfl
    exact ⟨_, _, FT, He.glo_ok X G (c.fact 12 (f := .glo "seen_in") rfl), FT.bindsN fun _ _ _ _ _ _ us hl => match us, hl with | [_, _, _], _ => rfl⟩
  d_seen := by
    obtain ⟨fdT, FT⟩ := c.def_ 13 (d := dd_seen) rfl
    exact ⟨_, _, FT, He.glo_ok X G (c.fact 13 (f := .glo "seen") rfl), FT.bindsN fun _ _ _ _ _ _ us hl => match us, hl with | [_, _, _], _ => rfl⟩
  d_heard_along := by
    obtain ⟨fdT, FT⟩ := c.def_ 14 (d := dd_heard_along) rfl
    exact ⟨_, _, FT, He.glo_ok X G (c.fact 14 (f := .glo "heard_along") rfl), FT.bindsN fun _ _ _ _ _ _ us hl => match us, hl with | [_, _, _, _], _ => rfl⟩
  d__law_box := by
    obtain ⟨fdT, FT⟩ := c.def_ 15 (d := dd__law_box) rfl
    exact ⟨_, _, FT, He.glo_ok X G (c.fact 15 (f := .glo "_law_box") rfl), FT.bindsN fun _ _ _ _ _ _ us hl => match us, hl with | [_, _], _ => rfl⟩
  d__law_take := by
    obtain ⟨fdT, FT⟩ := c.def_ 16 (d := dd__law_take) rfl
    exact ⟨_, _, FT, He.glo_ok X G (c.fact 16 (f := .glo "_law_take") rfl), FT.bindsN fun _ _ _ _ _ _ us hl => match us, hl with | [_, _], _ => rfl⟩
  d__law_cells := by
    obtain ⟨fdT, FT⟩ := c.def_ 17 (d := dd__law_cells) rfl
    exact ⟨_, _, FT, He.glo_ok X G (c.fact 17 (f := .glo "_law_cells") rfl), FT.bindsN fun _ _ _ _ _ _ us hl => match us, hl with | [_, _], _ => rfl⟩
  d__law_same := by
    obtain ⟨fdT, FT⟩ := c.def_ 18 (d := dd__law_same) rfl
    exact ⟨_, _, FT, He.glo_ok X G (c.fact 18 (f := .glo "_law_same") rfl), FT.bindsN fun _ _ _ _ _ _ us hl => match us, hl with | [_, _], _ => rfl⟩
  d__law_lists := by
    obtain ⟨fdT, FT⟩ := c.def_ 19 (d := dd__law_lists) rfl
    exact ⟨_, _, FT, He.glo_ok X G (c.fact 19 (f := .glo "_law_lists") rfl), FT.bindsN fun _ _ _ _ _ _ us hl => match us, hl with | [_], _ => rfl⟩
  d__law_is_sound := by
    obtain ⟨fdT, FT⟩ := c.def_ 20 (d := dd__law_is_sound) rfl
    exact ⟨_, _, FT, He.glo_ok X G (c.fact 20 (f := .glo "_law_is_sound") rfl), FT.bindsN fun _ _ _ _ _ _ us hl => match us, hl with | [_], _ => rfl⟩
  d__law_rows := by
    obtain ⟨fdT, FT⟩ := c.def_ 21 (d := dd__law_rows) rfl
    exact ⟨_, _, FT, He.glo_ok X G (c.fact 21 (f := .glo "_law_rows") rfl), FT.bindsN fun _ _ _ _ _ _ us hl => match us, hl with | [_, _], _ => rfl⟩
  d__law_seen := by
    obtain ⟨fdT, FT⟩ := c.def_ 22 (d := dd__law_seen) rfl
    exact ⟨_, _, FT, He.glo_ok X G (c.fact 22 (f := .glo "_law_seen") rfl), FT.bindsN fun _ _ _ _ _ _ us hl => match us, hl with | [_, _, _], _ => rfl⟩
  d__law_heard := by
    obtain ⟨fdT, FT⟩ := c.def_ 23 (d := dd__law_heard) rfl
    exact ⟨_, _, FT, He.glo_ok X G (c.fact 23 (f := .glo "_law_heard") rfl), FT.bindsN fun _ _ _ _ _ _ us hl => match us, hl with | [_, _, _, _], _ => rfl⟩
  d__law_history := by
    obtain ⟨fdT, FT⟩ := c.def_ 24 (d := dd__law_history) rfl
    exact ⟨_, _, FT, He.glo_ok X G (c.fact 24 (f := .glo "_law_history") rfl), FT.bindsN fun _ _ _ _ _ _ us hl => match us, hl with | [_, _, _], _ => rfl⟩
  d__law_telling := by
    obtain ⟨fdT, FT⟩ := c.def_ 25 (d := dd__law_telling) rfl
    exact ⟨_, _, FT, He.glo_ok X G (c.fact 25 (f := .glo "_law_telling") rfl), FT.bindsN fun _ _ _ _ _ _ us hl => match us, hl with | [_, _], _ => rfl⟩
  d__law_told := by
    obtain ⟨fdT, FT⟩ := c.def_ 26 (d := dd__law_told) rfl
    exact ⟨_, _, FT, He.glo_ok X G (c.fact 26 (f := .glo "_law_told") rfl), FT.bindsN fun _ _ _ _ _ _ us hl => match us, hl with | [_, _, _, _], _ => rfl⟩
  d__law_by_hand_right := by
    obtain ⟨fdT, FT⟩ := c.def_ 27 (d := dd__law_by_hand_right) rfl
    exact ⟨_, _, FT, He.glo_ok X G (c.fact 27 (f := .glo "_law_by_hand_right") rfl), FT.bindsN fun _ _ _ _ _ _ us hl => match us, hl with | [], _ => rfl⟩
  d__law_right := by
    obtain ⟨fdT, FT⟩ := c.def_ 28 (d := dd__law_right) rfl
    exact ⟨_, _, FT, He.glo_ok X G (c.fact 28 (f := .glo "_law_right") rfl), FT.bindsN fun _ _ _ _ _ _ us hl => match us, hl with | [_], _ => rfl⟩
  d_law := by
    obtain ⟨fdT, FT⟩ := c.def_ 29 (d := dd_law) rfl
    exact ⟨_, _, FT, He.glo_ok X G (c.fact 29 (f := .glo "law") rfl), FT.bindsN fun _ _ _ _ _ _ us hl => match us, hl with | [_], _ => rfl⟩
theorem bts {K : PySem.W.Frag} {h : Heap} {mg : Str → Option Value} (X : K.In h) (G : h.Ns mainGlobals mg) (c : He.SaysD fa fn K) : Bt mg where
  b_ValueError := He.free_ok X G (c.fact 30 (f := .free "ValueError") rfl)
  b_abs := He.free_ok X G (c.fact 31 (f := .free "abs") rfl)
  b_all := He.free_ok X G (c.fact 32 (f := .free "all") rfl)
  b_bool := He.free_ok X G (c.fact 33 (f := .free "bool") rfl)
  b_enumerate := He.free_ok X G (c.fact 34 (f := .free "enumerate") rfl)
  b_int := He.free_ok X G (c.fact 35 (f := .free "int") rfl)
  b_isinstance := He.free_ok X G (c.fact 36 (f := .free "isinstance") rfl)
  b_len := He.free_ok X G (c.fact 37 (f := .free "len") rfl)
  b_list := He.free_ok X G (c.fact 38 (f := .free "list") rfl)
  b_max := He.free_ok X G (c.fact 39 (f := .free "max") rfl)
  b_min := He.free_ok X G (c.fact 40 (f := .free "min") rfl)
  b_range := He.free_ok X G (c.fact 41 (f := .free "range") rfl)
  b_str := He.free_ok X G (c.fact 42 (f := .free "str") rfl)
  b_tuple := He.free_ok X G (c.fact 43 (f := .free "tuple") rfl)
  b_zip := He.free_ok X G (c.fact 44 (f := .free "zip") rfl)
theorem xss {K : PySem.W.Frag} {h : Heap} {mg : Str → Option Value} (X : K.In h) (G : h.Ns mainGlobals mg) (c : He.SaysD fa fn K) (q : exq K = true) : Xs K mg (xc K) := by
  unfold exq at q
  simp only [Bool.and_eq_true] at q
  obtain ⟨q0, q1⟩ := q
  have e0 : Ex1 K mg "NoPlace" (fieldOf "NoPlace") (He.ga K "NoPlace") (He.ma K (He.ga K "NoPlace") "__init__") lkBase "LookupError.__new__" := by
    obtain ⟨fdT, FT⟩ := c.def_ 30 (d := dd_init_NoPlace) rfl
    exact ex1_of (f := "place") (He.glo_ok X G (c.fact 45 (f := .glo "NoPlace") rfl)) q0 FT (by decide)
  have h0 : ∀ x cls, xc K x cls → PySem.W.exmOne K cls (.ref (He.ga K "NoPlace")) = some (decide ("NoPlace" = x)) := by
    rintro x cls ⟨hm, rfl⟩
    simp only [exN, List.mem_cons, List.not_mem_nil, or_false] at hm
    rcases hm with rfl | rfl
    · exact (He.exm_ok (c.fact 47 (f := .exm "NoPlace" "NoPlace" true) rfl)).trans (by decide +kernel)
    · exact (He.exm_ok (c.fact 49 (f := .exm "Unfit" "NoPlace" false) rfl)).trans (by decide +kernel)
  have e1 : Ex0 K mg "Unfit" (He.ga K "Unfit") := ex0_of (He.glo_ok X G (c.fact 46 (f := .glo "Unfit") rfl)) q1
  have h1 : ∀ x cls, xc K x cls → PySem.W.exmOne K cls (.ref (He.ga K "Unfit")) = some (decide ("Unfit" = x)) := by
    rintro x cls ⟨hm, rfl⟩
    simp only [exN, List.mem_cons, List.not_mem_nil, or_false] at hm
    rcases hm with rfl | rfl
    · exact (He.exm_ok (c.fact 48 (f := .exm "NoPlace" "Unfit" false) rfl)).trans (by decide +kernel)
    · exact (He.exm_ok (c.fact 50 (f := .exm "Unfit" "Unfit" true) rfl)).trans (by decide +kernel)
  exact ⟨e0, ⟨by simp [exN], rfl⟩, h0, fun cls z => z.2, e1, ⟨by simp [exN], rfl⟩, h1, fun cls z => z.2⟩
/-- what is left of the law: the evaluator's answer -/
def Goal : Prop := ∃ k, k ≤ 200 ∧ ∀ ns : List Int, ns.length ≤ 63 → ∃ outs, run tbl k 29 [.fz (.scr (ns.map D.int))] = .ok (.fz (.bl true)) outs
theorem facts (hG : Goal) {P : Program} {w : World} {K : PySem.W.Frag} {h : Heap} {mg : Str → Option Value} {f : Addr} (X : K.In h) (G : h.Ns mainGlobals mg) (hfa : mg ("law" : Str) = some (.ref f)) (c : He.SaysD fa fn K) (q : exq K = true) :
    ∃ fd : FuncData, (∀ (s : Shared) (v : Value), BindsTo s fd ⟨[v], []⟩ [("script", v)]) ∧ ∀ base : Heap, K.In base → base.Ns mainGlobals mg → FnOk P w K mg base (L2.CX P w) 200 f fd ["script"] (fun vs H Q _ => ∃ (a : Addr) (ns : List Int), vs = [.ref a] ∧ SqL K H a (ns.map V.int) ∧ ns.length ≤ 63 ∧ ∀ H', Q (.bl true) H') := by
  obtain ⟨fd, F⟩ := c.def_ 29 (d := dd_law) rfl
  have e := hfa.symm.trans (He.glo_ok X G (c.fact 29 (f := .glo "law") rfl))
  cases e
  have b := FunD.bindsA (ps := ["script"]) F fun _ _ _ _ _ _ us hl => match us, hl with | [_], _ => rfl
  obtain ⟨k, hk, hG⟩ := hG
  refine ⟨fd, fun s v => b s [v] rfl, fun base _ _ => ?_⟩
  refine FnOk.imp (sp := spI K (xc K) (run tbl k) 29) ?_ fun vs H Q E ⟨a, ns, e, hS, hl, q'⟩ => ?_
  · cases k with
    | zero => exact def_zero.mono (Nat.zero_le _)
    | succ k => exact (def_ok F sc_law (tbl := tbl) (f := 29) (fd' := fd_law) rfl rfl rfl (by decide) (by decide) (ok_law (bts X G c) (xss X G c q) (cx_ok (bts X G c) (xss X G c q) (dfs X G c) k) _)).mono hk
  obtain ⟨outs, ho⟩ := hG ns hl
  subst e
  exact law_sp hS ho q'
end K01
open PySem PySem.W PySem.Calls PyProof.Rows
theorem K01.holds (hG : K01.Goal) : PySem.Challenge.rw_queuedsums_k01_whole_what_stands_and_is.Holds := by
  w_on; o_law
  refine HandSHeadRun.head_any (r := OpenLaw.row PySem.Challenge.rw_queuedsums_k01_whole_what_stands_and_is) (q := view (OpenLaw.row PySem.Challenge.rw_queuedsums_k01_whole_what_stands_and_is).prog [35]) (H := K01.hk) (ob := K01.ob) (M := 4000) (loose := K01.loose) (d := HandSHeadRun.topDef (OpenLaw.row PySem.Challenge.rw_queuedsums_k01_whole_what_stands_and_is).prog 35) (kwd := []) K01.ob_eq
    (by kernel_rfl) (fun s => by kernel_rfl) K01.run_eq (by kernel_rfl) (by kernel_rfl) (by kernel_rfl) (by rfl) (by first | assumption | decide +kernel) (by decide +kernel) ⟨rfl, rfl, rfl, rfl, rfl, by decide +kernel⟩ ?hw ?hc
  case hw => w_witness2
  case hc =>
    refine PI.walk_ofEX (law := PySem.Challenge.rw_queuedsums_k01_whole_what_stands_and_is) (most := 63) (lev := 200) (par := "script") (cx := fun w => L2.CX (PySem.Challenge.rw_queuedsums_k01_whole_what_stands_and_is).prog w) rfl (by decide) (by kernel_rfl) ⟨rfl, by decide, by decide⟩ ?F (fun _ _ _ _ _ z => PI.cx_none z)
    intro w mg fa h Y G hmg0
    obtain ⟨K, KX, c⟩ := Y
    have hmg : mg ("law" : PySem.Str) = some (.ref fa) := by
      have e : (HandSHeadRun.topDef (OpenLaw.row PySem.Challenge.rw_queuedsums_k01_whole_what_stands_and_is).prog 35).name = ("law" : PySem.Str) := by kernel_rfl
      rw [← e]
      exact hmg0
    obtain ⟨fd, hb, hF⟩ := K01.facts hG (P := (PySem.Challenge.rw_queuedsums_k01_whole_what_stands_and_is).prog) (w := w) KX G hmg c.t.d c.more
    exact ⟨K, fd, _, KX, hb, fun H a ns hl _ hS => ⟨a, ns, rfl, hS, hl, fun _ => rfl⟩, hF⟩

end

theorem PySem.Challenge.cw_queuedsums_k01_whole_what_stands_and_is_holds : PySem.Challenge.rw_queuedsums_k01_whole_what_stands_and_is.Holds := by
  exact K01.holds ⟨59, by decide, K01.law_ok⟩
