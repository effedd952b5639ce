import PyProof.Rows.All
import Wide.All
import OpenK.AllK
import Wide.FinOn
import HandS.ForMost
import HandS.ForExc
import HandS.Wide
import HandS.WideBits
import HandS.Deep
import KE.DataEq
import PyProof.ReprLen
import HandS.Walk
import HandS.Defaults
import HandS.DictTup
import HandS.TupLen
import PyProof.DictMoreH
import HandS.IsInst
import HandS.Conv
import HandS.Zip
import HandS.More
import HandS.Text
import KE.SortData
import KE.KDictSum
import KE.KFmtOwn
import KE.KEqDict
import KE.KDictKeyed
import HandS.Style
import KE.KEqSeq
import KE.DataFind
import KE.KDictCopyH
import HandS.ListItems
import HandS.SetFor
import HandS.DictComp
import HandS.Flow
import KE.KDictList
import PyProof.StrOps2
import PyProof.Draws
import PyProof.StrLawsRepr
import PyProof.MeetsIn
import PyProof.EqAt
import HandS.Set
import HandS.SortKw
import HandS.TupLe
import HandS.Rev
import PyProof.DictUpdate
import HandS.ExcInit
import HandS.ExcField
import HandS.ExcIs
import KE.KExcInit
import HandS.WordsExc
import KE.KExcIs
import KE.KIsAll
import PySem.Challenge.RW_deepfall_k46_spans_in_any_order
set_option Elab.async false
set_option linter.all false
set_option maxRecDepth 100000
set_option maxHeartbeats 4000000
/-! Dl: data over the hand layer. A value is told as a tree (D); what may change is told by address (O, Mu). -/
namespace Dl
open PySem PySem.Spec PyProof.Rows L2
abbrev Frg := PySem.W.Frag
/-- data: scalars, references, lists and tuples that change no more -/
inductive D where
  | non | bl (b : Bool) | int (i : Int) | str (x : Str) | ty (n : String) | «at» (a : Addr)
  | lst (xs : List D) | tup (xs : List D)
/-- what stands at an address that may change -/
inductive O where
  | lst (xs : List D)
  | dK (kvs : List (Key × D))
  | dT (kvs : List (List Key × D))
  | ins (C : Addr) (fs : List (Str × D))
  | pot
  | ro (xs : List D)
  /-- a dict while it is walked -/
  | fz (o : Obj) (ks : List (Key × V)) (kvs : List (Key × D))
  | fzT (o : Obj) (ks : List (List Key × V)) (kvs : List (List Key × D))
abbrev Mu := Addr → Option O
abbrev Ms := Addr → Prop
def MD (μ : Mu) : Ms := fun a => ∃ o, μ a = some o
def put (μ : Mu) (a : Addr) (o : O) : Mu := fun b => if b = a then some o else μ b
theorem put_same {μ : Mu} {a : Addr} {o : O} : put μ a o a = some o := if_pos rfl
theorem put_ne {μ : Mu} {a b : Addr} {o : O} (h : b ≠ a) : put μ a o b = μ b := if_neg h
theorem put_put {μ : Mu} {a : Addr} {o u : O} : put (put μ a o) a u = put μ a u := by
  funext b
  by_cases h : b = a
  · rw [h, put_same, put_same]
  · rw [put_ne h, put_ne h, put_ne h]
theorem put_self {μ : Mu} {a : Addr} {o : O} (h : μ a = some o) : put μ a o = μ := by
  funext b
  by_cases e : b = a
  · rw [e, put_same, h]
  · rw [put_ne e]
theorem put_comm {μ : Mu} {a b : Addr} {o u : O} (h : a ≠ b) : put (put μ a o) b u = put (put μ b u) a o := by
  funext c
  by_cases e : c = a
  · subst e
    rw [put_ne h, put_same, put_same]
  · by_cases e2 : c = b
    · subst e2
      rw [put_same, put_ne e, put_same]
    · rw [put_ne e2, put_ne e, put_ne e, put_ne e2]
mutual
/-- v stands for the data d -/
def VD (M : Ms) (H : Hp) : D → V → Prop
  | .non, v => v = .non
  | .bl b, v => v = .bl b
  | .int i, v => v = .int i
  | .str x, v => v = .str x
  | .ty n, v => v = .ty n
  | .at a, v => v = .ref a
  | .lst ds, v => ∃ a xs, v = .ref a ∧ (¬ M a ∧ H a = some (.lst xs)) ∧ VDs M H ds xs
  | .tup ds, v => ∃ a xs, v = .ref a ∧ (¬ M a ∧ H a = some (.tup xs)) ∧ VDs M H ds xs
def VDs (M : Ms) (H : Hp) : List D → List V → Prop
  | [], xs => xs = []
  | d :: ds, xs => ∃ v vs, xs = v :: vs ∧ VD M H d v ∧ VDs M H ds vs
end
/-- how a heap may go on -/
structure Step (M : Ms) (H : Hp) (M' : Ms) (H' : Hp) : Prop where
  keep : ∀ a o, ¬ M a → H a = some o → H' a = some o
  grow : ∀ a, M' a → M a ∨ H a = none
theorem Step.refl {M : Ms} {H : Hp} : Step M H M H := ⟨fun _ _ _ h => h, fun _ h => .inl h⟩
theorem Step.trans {M M1 M2 : Ms} {H H1 H2 : Hp} (a : Step M H M1 H1) (b : Step M1 H1 M2 H2) : Step M H M2 H2 where
  keep := fun x o n e => b.keep x o (fun m => (a.grow x m).elim n fun q => by rw [q] at e; cases e) (a.keep x o n e)
  grow := fun x m => by
    rcases b.grow x m with m1 | q
    · exact a.grow x m1
    · by_cases n : M x
      · exact .inl n
      · cases e : H x with
        | none => exact .inr rfl
        | some o => rw [a.keep x o n e] at q; cases q
/-- only what is new was laid -/
theorem Step.ext {M : Ms} {H H' : Hp} (h : ∀ a o, H a = some o → H' a = some o) : Step M H M H' := ⟨fun a o _ e => h a o e, fun _ m => .inl m⟩
theorem Step.new {M : Ms} {H : Hp} {p : Addr} {o : HO} (h : H p = none) : Step M H M (upd H p o) := .ext fun a u e => by
  rw [upd_ne (ne_of_none e h)]
  exact e
theorem Step.newM {μ : Mu} {H : Hp} {p : Addr} {o : HO} {x : O} (h : H p = none) : Step (MD μ) H (MD (put μ p x)) (upd H p o) where
  keep := fun a u _ e => by
    rw [upd_ne (ne_of_none e h)]
    exact e
  grow := fun a ⟨u, e⟩ => by
    by_cases q : a = p
    · subst q
      exact .inr h
    · rw [put_ne q] at e
      exact .inl ⟨u, e⟩
theorem Step.write {μ : Mu} {H : Hp} {p : Addr} {o : HO} {x : O} (h : MD μ p) : Step (MD μ) H (MD (put μ p x)) (upd H p o) where
  keep := fun a u n e => by
    have q : a ≠ p := fun z => n (z ▸ h)
    rw [upd_ne q]
    exact e
  grow := fun a ⟨u, e⟩ => by
    by_cases q : a = p
    · subst q
      exact .inl h
    · rw [put_ne q] at e
      exact .inl ⟨u, e⟩
section
variable {M M' : Ms} {H H' : Hp}
theorem Fz.step {a : Addr} {u : HO} (st : Step M H M' H') (h : ¬ M a ∧ H a = some u) : ¬ M' a ∧ H' a = some u :=
  ⟨fun m => (st.grow a m).elim h.1 fun q => (by rw [h.2] at q; cases q), st.keep a _ h.1 h.2⟩
mutual
theorem VD.step (st : Step M H M' H') : ∀ (d : D) (v : V), VD M H d v → VD M' H' d v
  | .non, _, h => h
  | .bl _, _, h => h
  | .int _, _, h => h
  | .str _, _, h => h
  | .ty _, _, h => h
  | .at _, _, h => h
  | .lst ds, _, ⟨a, xs, e, f, g⟩ => ⟨a, xs, e, Fz.step st f, VDs.step st ds xs g⟩
  | .tup ds, _, ⟨a, xs, e, f, g⟩ => ⟨a, xs, e, Fz.step st f, VDs.step st ds xs g⟩
theorem VDs.step (st : Step M H M' H') : ∀ (ds : List D) (vs : List V), VDs M H ds vs → VDs M' H' ds vs
  | [], _, h => h
  | d :: ds, _, ⟨v, vs, e, f, g⟩ => ⟨v, vs, e, VD.step st d v f, VDs.step st ds vs g⟩
end
theorem VDs.length : ∀ {ds : List D} {vs : List V}, VDs M H ds vs → ds.length = vs.length
  | [], _, h => by rw [show _ = [] from h]; rfl
  | d :: ds, _, ⟨v, vs, e, _, g⟩ => by rw [e, List.length_cons, List.length_cons, VDs.length g]
theorem VDs.get : ∀ {ds : List D} {vs : List V} {i : Nat} {d : D}, VDs M H ds vs → ds[i]? = some d → ∃ v, vs[i]? = some v ∧ VD M H d v
  | [], _, _, _, _, e => by simp at e
  | d :: ds, _, 0, x, ⟨v, vs, e, f, _⟩, q => by
    simp only [List.getElem?_cons_zero, Option.some.injEq] at q
    subst q e
    exact ⟨v, rfl, f⟩
  | d :: ds, _, i + 1, x, ⟨v, vs, e, _, g⟩, q => by
    subst e
    obtain ⟨y, h1, h2⟩ := VDs.get (i := i) g (by simpa using q)
    exact ⟨y, by simpa using h1, h2⟩
theorem VDs.of_get : ∀ {ds : List D} {vs : List V} {i : Nat} {v : V}, VDs M H ds vs → vs[i]? = some v → ∃ d, ds[i]? = some d ∧ VD M H d v := fun {ds vs i v} h e => by
  have hl := h.length
  have hi := (List.getElem?_eq_some_iff.mp e).1
  obtain ⟨d, hd⟩ : ∃ d, ds[i]? = some d := ⟨ds[i]'(by omega), List.getElem?_eq_getElem _⟩
  obtain ⟨y, h1, h2⟩ := h.get hd
  rw [e] at h1
  cases h1
  exact ⟨d, hd, h2⟩
theorem VDs.append : ∀ {ds es : List D} {vs ws : List V}, VDs M H ds vs → VDs M H es ws → VDs M H (ds ++ es) (vs ++ ws)
  | [], _, _, _, h, g => by
    rw [show _ = [] from h]
    exact g
  | d :: ds, _, _, _, ⟨v, vs, e, f, t⟩, g => by
    subst e
    exact ⟨v, _, rfl, f, VDs.append t g⟩
theorem VDs.of_all : ∀ {ds : List D} {vs : List V}, ds.length = vs.length → (∀ (i : Nat) d v, ds[i]? = some d → vs[i]? = some v → VD M H d v) → VDs M H ds vs
  | [], [], _, _ => rfl
  | [], _ :: _, h, _ => by cases h
  | _ :: _, [], h, _ => by cases h
  | d :: ds, v :: vs, h, f => ⟨v, vs, rfl, f 0 d v rfl rfl, VDs.of_all (Nat.succ.inj h) fun i x y e1 e2 => f (i + 1) x y (by simpa using e1) (by simpa using e2)⟩
theorem VDs.iff {ds : List D} {vs : List V} : VDs M H ds vs ↔ ds.length = vs.length ∧ ∀ (i : Nat) d v, ds[i]? = some d → vs[i]? = some v → VD M H d v := by
  constructor
  · intro h
    refine ⟨h.length, fun i d v e1 e2 => ?_⟩
    obtain ⟨w, e3, r⟩ := h.get e1
    rw [e2] at e3
    cases e3
    exact r
  · exact fun h => VDs.of_all h.1 h.2
theorem VDs.take {ds : List D} {vs : List V} (n : Nat) (h : VDs M H ds vs) : VDs M H (ds.take n) (vs.take n) := by
  rw [VDs.iff] at *
  refine ⟨by simp [h.1], fun i d v e1 e2 => ?_⟩
  rw [List.getElem?_take] at e1 e2
  split at e1
  · rename_i q
    rw [if_pos q] at e2
    exact h.2 i d v e1 e2
  · cases e1
theorem VDs.drop {ds : List D} {vs : List V} (n : Nat) (h : VDs M H ds vs) : VDs M H (ds.drop n) (vs.drop n) := by
  rw [VDs.iff] at *
  refine ⟨by simp [h.1], fun i d v e1 e2 => ?_⟩
  rw [List.getElem?_drop] at e1 e2
  exact h.2 _ d v e1 e2
theorem VDs.reverse {ds : List D} {vs : List V} (h : VDs M H ds vs) : VDs M H ds.reverse vs.reverse := by
  have hl := h.length
  rw [VDs.iff] at *
  refine ⟨by simp [h.1], fun i d v e1 e2 => ?_⟩
  have hi : i < ds.length := by simpa using (List.getElem?_eq_some_iff.mp e1).1
  rw [List.getElem?_reverse hi] at e1
  rw [List.getElem?_reverse (by omega)] at e2
  exact h.2 _ d v e1 (by rw [h.1]; exact e2)
theorem VDs.set {ds : List D} {vs : List V} {d : D} {v : V} (i : Nat) (h : VDs M H ds vs) (r : VD M H d v) : VDs M H (ds.set i d) (vs.set i v) := by
  rw [VDs.iff] at *
  refine ⟨by simp [h.1], fun j x y e1 e2 => ?_⟩
  by_cases q : j = i
  · subst q
    have hj : j < ds.length := by simpa using (List.getElem?_eq_some_iff.mp e1).1
    rw [List.getElem?_set_self hj] at e1
    rw [List.getElem?_set_self (by omega)] at e2
    cases e1
    cases e2
    exact r
  · rw [List.getElem?_set_ne (Ne.symm q)] at e1 e2
    exact h.2 j x y e1 e2
theorem VDs.replicate {d : D} {v : V} (r : VD M H d v) : ∀ n : Nat, VDs M H (List.replicate n d) (List.replicate n v)
  | 0 => rfl
  | n + 1 => ⟨v, _, rfl, r, VDs.replicate r n⟩
end
/-! ### what is told by address -/
abbrev KD {κ : Type} (M : Ms) (H : Hp) : List (κ × D) → List (κ × V) → Prop := Paired fun p q => p.1 = q.1 ∧ VD M H p.2 q.2
def PotOk (_ y : Int) : Prop := 0 ≤ y ∧ y < 2147483648
def OH (M : Ms) (H : Hp) (a : Addr) : O → Prop
  | .lst ds => ∃ xs, H a = some (.lst xs) ∧ VDs M H ds xs
  | .dK kvs => ∃ ks, H a = some (.dK ks) ∧ KD M H kvs ks
  | .dT kvs => ∃ ks, H a = some (.dT ks) ∧ KD M H kvs ks
  | .ins C fs => ∃ dx gs, H a = some (.ins C dx gs) ∧ KD M H fs gs
  | .ro ds => ∃ xs, Rd H a (.lst xs) ∧ VDs M H ds xs
  | .fz o ks kvs => H a = some (.frz o (.dK ks)) ∧ KD M H kvs ks
  | .fzT o ks kvs => H a = some (.frz o (.dT ks)) ∧ KD M H kvs ks
  | .pot => ∃ x y, H a = some (.lst [.int x, .int y]) ∧ PotOk x y
def MH (μ : Mu) (H : Hp) : Prop := ∀ a o, μ a = some o → OH (MD μ) H a o
section
variable {M M' : Ms} {H H' : Hp} {μ : Mu}
theorem KD.step {κ : Type} (st : Step M H M' H') : ∀ {xs : List (κ × D)} {ys : List (κ × V)}, KD M H xs ys → KD M' H' xs ys
  | _, _, .nil => .nil
  | _, _, .cons r t => .cons ⟨r.1, VD.step st _ _ r.2⟩ (KD.step st t)
theorem OH.step {a : Addr} {o : O} (st : Step M H M' H') (e : H' a = H a) (h : OH M H a o) : OH M' H' a o := by
  cases o with
  | lst ds => obtain ⟨xs, h1, h2⟩ := h; exact ⟨xs, e.trans h1, VDs.step st _ _ h2⟩
  | dK ds => obtain ⟨xs, h1, h2⟩ := h; exact ⟨xs, e.trans h1, KD.step st h2⟩
  | dT ds => obtain ⟨xs, h1, h2⟩ := h; exact ⟨xs, e.trans h1, KD.step st h2⟩
  | ins C fs => obtain ⟨dx, gs, h1, h2⟩ := h; exact ⟨dx, gs, e.trans h1, KD.step st h2⟩
  | ro ds =>
    obtain ⟨xs, h1, h2⟩ := h
    exact ⟨xs, h1.imp (fun q => e.trans q) fun ⟨ob, q⟩ => ⟨ob, e.trans q⟩, VDs.step st _ _ h2⟩
  | fz o ks kvs => obtain ⟨h1, h2⟩ := h; exact ⟨e.trans h1, KD.step st h2⟩
  | fzT o ks kvs => obtain ⟨h1, h2⟩ := h; exact ⟨e.trans h1, KD.step st h2⟩
  | pot => obtain ⟨x, y, h1, h2⟩ := h; exact ⟨x, y, e.trans h1, h2⟩
theorem OH.there {a : Addr} {o : O} (h : OH M H a o) : ∃ u, H a = some u := by
  cases o with
  | lst ds => obtain ⟨xs, h1, _⟩ := h; exact ⟨_, h1⟩
  | dK ds => obtain ⟨xs, h1, _⟩ := h; exact ⟨_, h1⟩
  | dT ds => obtain ⟨xs, h1, _⟩ := h; exact ⟨_, h1⟩
  | ins C fs => obtain ⟨dx, gs, h1, _⟩ := h; exact ⟨_, h1⟩
  | ro ds =>
    obtain ⟨xs, h1, _⟩ := h
    rcases h1 with h1 | ⟨ob, h1⟩
    · exact ⟨_, h1⟩
    · exact ⟨_, h1⟩
  | fz o ks kvs => exact ⟨_, h.1⟩
  | fzT o ks kvs => exact ⟨_, h.1⟩
  | pot => obtain ⟨x, y, h1, _⟩ := h; exact ⟨_, h1⟩
theorem MH.free (m : MH μ H) {p : Addr} (h : H p = none) : μ p = none := by
  cases e : μ p with
  | none => rfl
  | some o =>
    obtain ⟨u, q⟩ := (m p o e).there
    rw [h] at q
    cases q
theorem MH.ext (m : MH μ H) (h : ∀ a o, H a = some o → H' a = some o) : MH μ H' := fun a o e => by
  obtain ⟨u, q⟩ := (m a o e).there
  exact (m a o e).step (.ext h) ((h a u q).trans q.symm)
theorem MH.newF {p : Addr} {o : HO} (m : MH μ H) (h : H p = none) : MH μ (upd H p o) := m.ext fun a u e => by
  rw [upd_ne (ne_of_none e h)]
  exact e
theorem MH.newM {p : Addr} {o : HO} {x : O} (m : MH μ H) (h : H p = none) (n : OH (MD (put μ p x)) (upd H p o) p x) : MH (put μ p x) (upd H p o) := fun a u e => by
  by_cases q : a = p
  · subst q
    rw [put_same] at e
    cases e
    exact n
  · rw [put_ne q] at e
    exact (m a u e).step (.newM h) (upd_ne q)
theorem MH.write {p : Addr} {o : HO} {x : O} (m : MH μ H) (h : MD μ p) (n : OH (MD (put μ p x)) (upd H p o) p x) : MH (put μ p x) (upd H p o) := fun a u e => by
  by_cases q : a = p
  · subst q
    rw [put_same] at e
    cases e
    exact n
  · rw [put_ne q] at e
    exact (m a u e).step (.write h) (upd_ne q)
end
/-! ### the frame's names -/
abbrev Rho := List (Option D)
/-- where a frame began: what could change then, the heap -/
abbrev Bs := Ms × Hp
/-- the names' values; and the heap has gone on from where the frame began -/
def RS (B : Bs) (M : Ms) (H : Hp) (ρ : Rho) (σ : L2.St) : Prop := ρ.length = σ.length ∧ (∀ (i : Nat) d, ρ[i]? = some (some d) → ∃ v, σ[i]? = some (some v) ∧ VD M H d v) ∧ Step B.1 B.2 M H
section
variable {B : Bs} {M M' : Ms} {H H' : Hp} {ρ : Rho} {σ : L2.St}
theorem RS.step (st : Step M H M' H') (r : RS B M H ρ σ) : RS B M' H' ρ σ := ⟨r.1, fun i d e => by
  obtain ⟨v, e1, q⟩ := r.2.1 i d e
  exact ⟨v, e1, VD.step st _ _ q⟩, r.2.2.trans st⟩
theorem RS.set {d : D} {v : V} (i : Nat) (r : RS B M H ρ σ) (h : VD M H d v) : RS B M H (ρ.set i (some d)) (σ.set i (some v)) := by
  refine ⟨by simp [r.1], fun j x e => ?_, r.2.2⟩
  by_cases q : j = i
  · subst q
    have hj : j < ρ.length := by simpa using (List.getElem?_eq_some_iff.mp e).1
    rw [List.getElem?_set_self hj] at e
    cases e
    exact ⟨v, by rw [List.getElem?_set_self (by rw [← r.1]; exact hj)], h⟩
  · rw [List.getElem?_set_ne (Ne.symm q)] at e
    obtain ⟨y, e1, q1⟩ := r.2.1 j x e
    exact ⟨y, by rw [List.getElem?_set_ne (Ne.symm q)]; exact e1, q1⟩
end
/-! ### expressions -/
abbrev DQ := D → Mu → Prop
abbrev WE := Rho → Mu → DQ → Prop
/-- the wish over data, over values -/
def lft (μ : Mu) (H : Hp) (Q : DQ) : VK := fun v H' => ∃ d μ', Step (MD μ) H (MD μ') H' ∧ MH μ' H' ∧ VD (MD μ') H' d v ∧ Q d μ'
theorem lft.trans {μ μ1 : Mu} {H H1 H2 : Hp} {Q : DQ} {v : V} (st : Step (MD μ) H (MD μ1) H1) (h : lft μ1 H1 Q v H2) : lft μ H Q v H2 := by
  obtain ⟨d, μ', a, b, c, e⟩ := h
  exact ⟨d, μ', st.trans a, b, c, e⟩
def up (B : Bs) (w : WE) : TE := fun σ H Q => ∃ ρ μ QD, RS B (MD μ) H ρ σ ∧ MH μ H ∧ w ρ μ QD ∧ ∀ v H', lft μ H QD v H' → Q v H'
abbrev JE (B : Bs) (X : Cx) (e : Expr) (w : WE) : Prop := PE X e (up B w)
theorem PE.of {X : Cx} {e : Expr} {t t' : TE} (h : PE X e t) (g : ∀ σ H Q, t' σ H Q → t σ H Q) : PE X e t' := ⟨fun pins s σ H Q I q => h.run pins s σ H Q I (g σ H Q q)⟩
/-- how up is used: the parts in the state's own letters -/
theorem up_mk {w : WE} {σ : L2.St} {H : Hp} {Q : VK} {ρ : Rho} {μ : Mu} {QD : DQ} (r : RS B (MD μ) H ρ σ) (m : MH μ H) (h : w ρ μ QD) (k : ∀ v H' d μ', Step (MD μ) H (MD μ') H' → MH μ' H' → VD (MD μ') H' d v → QD d μ' → Q v H') : up B w σ H Q :=
  ⟨ρ, μ, QD, r, m, h, fun v H' ⟨d, μ', a, b, c, e⟩ => k v H' d μ' a b c e⟩
theorem lft_mk {μ : Mu} {H : Hp} {Q : DQ} {d : D} {v : V} (m : MH μ H) (h : VD (MD μ) H d v) (q : Q d μ) : lft μ H Q v H := ⟨d, μ, .refl, m, h, q⟩
end Dl
namespace Dl
open PySem PySem.Spec PyProof.Rows L2
variable {B : Bs}
/-! ### operations by data -/
abbrev F1 := D → Mu → DQ → Prop
abbrev F2 := D → D → Mu → DQ → Prop
abbrev FN := List D → Mu → DQ → Prop
def upF1 (r : F1) : V → Hp → VK → Prop := fun x H Q => ∃ d μ QD, VD (MD μ) H d x ∧ MH μ H ∧ r d μ QD ∧ ∀ v H', lft μ H QD v H' → Q v H'
def upF2 (r : F2) : R2 := fun x y H Q => ∃ d e μ QD, VD (MD μ) H d x ∧ VD (MD μ) H e y ∧ MH μ H ∧ r d e μ QD ∧ ∀ v H', lft μ H QD v H' → Q v H'
def upFN (r : FN) : List V → Hp → VK → Prop := fun xs H Q => ∃ ds μ QD, VDs (MD μ) H ds xs ∧ MH μ H ∧ r ds μ QD ∧ ∀ v H', lft μ H QD v H' → Q v H'
def upFM (r : D → FN) : V → List V → Hp → VK → Prop := fun x xs H Q => ∃ d ds μ QD, VD (MD μ) H d x ∧ VDs (MD μ) H ds xs ∧ MH μ H ∧ r d ds μ QD ∧ ∀ v H', lft μ H QD v H' → Q v H'
theorem OpR.of {X : Cx} {f : Value → Value → Sem Value} {r r' : R2} (h : OpR X f r) (g : ∀ x y H Q, r' x y H Q → r x y H Q) : OpR X f r' := fun pins s σ H x y v u Q I rx ry q => h pins s σ H x y v u Q I rx ry (g x y H Q q)
theorem UnR.of {X : Cx} {f : Value → Sem Value} {r r' : V → Hp → VK → Prop} (h : UnR X f r) (g : ∀ x H Q, r' x H Q → r x H Q) : UnR X f r' := fun pins s σ H x v Q I rx q => h pins s σ H x v Q I rx (g x H Q q)
theorem CallR.of {X : Cx} {f : Value} {r r' : List V → Hp → VK → Prop} (h : CallR X f r) (g : ∀ xs H Q, r' xs H Q → r xs H Q) : CallR X f r' := fun pins s σ H xs us Q I rx q => h pins s σ H xs us Q I rx (g xs H Q q)
theorem MtR.of {X : Cx} {id : String} {r r' : V → List V → Hp → VK → Prop} (h : MtR X id r) (g : ∀ x xs H Q, r' x xs H Q → r x xs H Q) : MtR X id r' := fun pins s σ H x xs v us Q I rx rxs q => h pins s σ H x xs v us Q I rx rxs (g x xs H Q q)
theorem IxR.of {X : Cx} {r r' : R2} (h : IxR X r) (g : ∀ x y H Q, r' x y H Q → r x y H Q) : IxR X r' := fun a b pins s σ H x y v u Q I rx ry q => h a b pins s σ H x y v u Q I rx ry (g x y H Q q)
theorem PT.of {X : Cx} {e : Expr} {t t' : TT} (h : PT X e t) (g : ∀ σ H Q, t' σ H Q → t σ H Q) : PT X e t' := ⟨fun pins s σ H Q I q => h.run pins s σ H Q I (g σ H Q q)⟩
theorem PW.of {X : Cx} {e : Expr} {t t' : TT} (h : PW X e t) (g : ∀ σ H Q, t' σ H Q → t σ H Q) : PW X e t' := ⟨fun whole pins s σ H Q I q => h.run whole pins s σ H Q I (g σ H Q q)⟩
theorem PA.of {X : Cx} {es : List Expr} {t t' : TA} (h : PA X es t) (g : ∀ σ H Q, t' σ H Q → t σ H Q) : PA X es t' := ⟨fun pos pins s σ H Q I q => h.run pos pins s σ H Q I (g σ H Q q)⟩
/-! ### names and constants -/
def wName (i : Nat) : WE := fun ρ μ Q => match ρ[i]? with
  | some (some d) => Q d μ
  | _ => False
def wC (d : D) : WE := fun _ μ Q => Q d μ
section
variable {X : Cx}
theorem je_name (i : Nat) {x : Str} {pos : Pos} (hN : X.N[i]? = some x := by rfl) (hv : Vis X.env.scope x := by first | exact Or.inl rfl | exact Or.inr (Or.inl rfl) | exact Or.inr (Or.inr rfl)) (hd : (x == ("__debug__" : Str)) = false := by decide)
    (hcd : (x == ("__classdict__" : Str)) = false := by decide) : JE B X (.Name x pos) (wName i) := PE.of (pe_var hN hv hd hcd) fun σ H Q ⟨ρ, μ, QD, r, m, h, k⟩ => by
  unfold wName at h
  split at h
  · rename_i d e
    obtain ⟨v, e1, q⟩ := r.2.1 i d e
    exact ⟨v, e1, k _ _ (lft_mk m q h)⟩
  · exact h.elim
theorem je_c {e : Expr} {v : V} {d : D} (h : PE X e (tC v)) (r : ∀ M H, VD M H d v) : JE B X e (wC d) := PE.of h fun σ H Q ⟨ρ, μ, QD, _, m, h, k⟩ => k _ _ (lft_mk m (r _ _) h)
theorem je_int {i j pos} : JE B X (.Constant (.int i) j pos) (wC (.int i)) := je_c pe_int fun _ _ => rfl
theorem je_bl {b j pos} : JE B X (.Constant (.bool b) j pos) (wC (.bl b)) := je_c pe_bl fun _ _ => rfl
theorem je_non {j pos} : JE B X (.Constant .none j pos) (wC .non) := je_c pe_non fun _ _ => rfl
/-- a class of the text as a value; a built-in type as a value -/
theorem je_gref {x : Str} {a : Addr} {pos : Pos} (hm : X.mg x = some (.ref a)) (hg : Gl X x := by rfl) (hd : (x == ("__debug__" : Str)) = false := by decide) : JE B X (.Name x pos) (wC (.at a)) := je_c (pe_glob (v := .ref a) hg hm rfl hd) fun _ _ => rfl
theorem je_ty {x : Str} {n : String} {pos : Pos} (hm : X.mg x = none) (hv : bootBuiltins x = some (.type n)) (hg : Gl X x := by rfl) (hn : x ≠ "__name__" := by decide) (hd : (x == ("__debug__" : Str)) = false := by decide) : JE B X (.Name x pos) (wC (.ty n)) := je_c (pe_bltn (v := .ty n) hg hm hv rfl hn hd) fun _ _ => rfl
end
/-! ### new lists, new tuples -/
/-- a new list: it changes no more (false), or it may change (true) -/
def New (m : Bool) (ds : List D) (μ : Mu) (Q : DQ) : Prop := match m with
  | false => Q (.lst ds) μ
  | true => ∀ l, μ l = none → Q (.at l) (put μ l (.lst ds))
theorem lft_new {m : Bool} {μ : Mu} {H : Hp} {Q : DQ} {ds : List D} {xs : List V} {p : Addr} (mh : MH μ H) (hv : VDs (MD μ) H ds xs) (hp : H p = none) (q : New m ds μ Q) : lft μ H Q (.ref p) (upd H p (.lst xs)) := by
  have hn := mh.free hp
  cases m with
  | false =>
    have st : Step (MD μ) H (MD μ) (upd H p (.lst xs)) := .new hp
    exact ⟨.lst ds, μ, st, mh.newF hp, ⟨p, xs, rfl, ⟨fun ⟨o, e⟩ => (by rw [hn] at e; cases e), upd_same⟩, VDs.step st _ _ hv⟩, q⟩
  | true =>
    have st : Step (MD μ) H (MD (put μ p (.lst ds))) (upd H p (.lst xs)) := .newM hp
    exact ⟨.at p, put μ p (.lst ds), st, mh.newM hp ⟨xs, upd_same, VDs.step st _ _ hv⟩, rfl, q p hn⟩
theorem lft_tup {μ : Mu} {H : Hp} {Q : DQ} {ds : List D} {xs : List V} {p : Addr} (mh : MH μ H) (hv : VDs (MD μ) H ds xs) (hp : H p = none) (q : Q (.tup ds) μ) : lft μ H Q (.ref p) (upd H p (.tup xs)) := by
  have hn := mh.free hp
  have st : Step (MD μ) H (MD μ) (upd H p (.tup xs)) := .new hp
  exact ⟨.tup ds, μ, st, mh.newF hp, ⟨p, xs, rfl, ⟨fun ⟨o, e⟩ => (by rw [hn] at e; cases e), upd_same⟩, VDs.step st _ _ hv⟩, q⟩
/-! ### arguments, displays -/
abbrev WA := Rho → Mu → (List D → Mu → Prop) → Prop
def upA (B : Bs) (w : WA) : TA := fun σ H Q => ∃ ρ μ QD, RS B (MD μ) H ρ σ ∧ MH μ H ∧ w ρ μ QD ∧ ∀ vs H' ds μ', Step (MD μ) H (MD μ') H' → MH μ' H' → VDs (MD μ') H' ds vs → QD ds μ' → Q vs H'
abbrev JA (B : Bs) (X : Cx) (es : List Expr) (w : WA) : Prop := PA X es (upA B w)
def wNil : WA := fun _ μ Q => Q [] μ
def wCons (a : WE) (r : WA) : WA := fun ρ μ Q => a ρ μ fun d μ1 => r ρ μ1 fun ds μ2 => Q (d :: ds) μ2
section
variable {X : Cx} {e : Expr} {es : List Expr} {a : WE} {r : WA} {pos : Pos}
theorem ja_nil : JA B X [] wNil := PA.of pa_nil fun σ H Q ⟨ρ, μ, QD, _, m, h, k⟩ => k [] H [] μ .refl m rfl h
theorem ja_cons (ha : JE B X e a) (hr : JA B X es r) (hs : starEach (e :: es) X.env = (false, eval e X.env) :: starEach es X.env := by rfl) : JA B X (e :: es) (wCons a r) := PA.of (pa_cons ha hr hs) fun σ H Q ⟨ρ, μ, QD, rs, m, h, k⟩ =>
  up_mk rs m h fun v H1 d μ1 s1 m1 v1 h1 => ⟨ρ, μ1, _, rs.step s1, m1, h1, fun vs H2 ds μ2 s2 m2 v2 h2 => k _ _ (d :: ds) μ2 (s1.trans s2) m2 ⟨v, vs, rfl, VD.step s2 _ _ v1, v2⟩ h2⟩
def wLst (m : Bool) (w : WA) : WE := fun ρ μ Q => w ρ μ fun ds μ1 => ds.length ≤ sizeLine ∧ New m ds μ1 Q
def wTup (w : WA) : WE := fun ρ μ Q => w ρ μ fun ds μ1 => ds.length ≤ sizeLine ∧ Q (.tup ds) μ1
theorem je_lst (m : Bool) (h : JA B X es r) : JE B X (.List es pos) (wLst m r) := PE.of (pe_lst h) fun σ H Q ⟨ρ, μ, QD, rs, mh, h, k⟩ =>
  ⟨ρ, μ, _, rs, mh, h, fun vs H1 ds μ1 s1 m1 v1 h1 => ⟨by rw [← v1.length]; exact h1.1, fun p hp => k _ _ ((lft_new m1 v1 hp h1.2).trans s1)⟩⟩
theorem je_tup {x1} (h : JA B X es r) : JE B X (.Tuple es x1 pos) (wTup r) := PE.of (pe_tup h) fun σ H Q ⟨ρ, μ, QD, rs, mh, h, k⟩ =>
  ⟨ρ, μ, _, rs, mh, h, fun vs H1 ds μ1 s1 m1 v1 h1 => ⟨by rw [← v1.length]; exact h1.1, fun p hp => k _ _ ((lft_tup m1 v1 hp h1.2).trans s1)⟩⟩
end
/-- by cases upon a known truth -/
def Br (c : Bool) (A B : Prop) : Prop := (c = true → A) ∧ (c = false → B)
theorem Br.ite {c : Bool} {A B : Prop} (h : Br c A B) : if c = true then A else B := by
  cases c with
  | true => rw [if_pos rfl]; exact h.1 rfl
  | false => rw [if_neg Bool.false_ne_true]; exact h.2 rfl
theorem Br.mono {c : Bool} {A B A' B' : Prop} (h : Br c A B) (f : A → A') (g : B → B') : Br c A' B' := ⟨fun e => f (h.1 e), fun e => g (h.2 e)⟩
/-- a value that is True or False -/
def isBl (d : D) (Q : Bool → Prop) : Prop := match d with
  | .bl b => Q b
  | _ => False
theorem isBl.val {d : D} {Q : Bool → Prop} (h : isBl d Q) : ∃ b, d = .bl b ∧ Q b := by
  cases d with
  | bl b => exact ⟨b, rfl, h⟩
  | _ => exact h.elim
/-! ### operators -/
def wOp (f : F2) (a b : WE) : WE := fun ρ μ Q => a ρ μ fun d μ1 => b ρ μ1 fun e μ2 => f d e μ2 Q
def wUn (f : F1) (a : WE) : WE := fun ρ μ Q => a ρ μ fun d μ1 => f d μ1 Q
theorem up_op {f : F2} {a b : WE} {σ : L2.St} {H : Hp} {Q : VK} (h : up B (wOp f a b) σ H Q) : tOp (upF2 f) (up B a) (up B b) σ H Q := by
  obtain ⟨ρ, μ, QD, rs, m, h, k⟩ := h
  exact up_mk rs m h fun v H1 d μ1 s1 m1 v1 h1 => up_mk (rs.step s1) m1 h1 fun u H2 e μ2 s2 m2 v2 h2 => ⟨d, e, μ2, QD, VD.step s2 _ _ v1, v2, m2, h2, fun z H3 q => k z H3 (q.trans (s1.trans s2))⟩
section
variable {X : Cx} {x y : Expr} {a b : WE} {f : F2} {g : F1} {pos : Pos}
theorem je_op {op : Operator} (ho : OpR X (binaryOp op) (upF2 f)) (ha : JE B X x a) (hb : JE B X y b) : JE B X (.BinOp x op y pos) (wOp f a b) := PE.of (pe_op ho ha hb) fun _ _ _ h => up_op h
theorem je_un {op : UnaryOp} (ho : UnR X (unaryOp op) (upF1 g)) (ha : JE B X x a) : JE B X (.UnaryOp op x pos) (wUn g a) := PE.of (pe_un ho ha) fun σ H Q ⟨ρ, μ, QD, rs, m, h, k⟩ =>
  up_mk rs m h fun v H1 d μ1 s1 m1 v1 h1 => ⟨d, μ1, QD, v1, m1, h1, fun z H3 q => k z H3 (q.trans s1)⟩
theorem je_cmp {op : CmpOp} (ho : OpR X (compareOp op) (upF2 f)) (ha : JE B X x a) (hb : JE B X y b) (hm : behindInMarks op y = false := by first | exact nomark _ (by decide) (by decide) | rfl) : JE B X (.Compare x [op] [y] pos) (wOp f a b) := PE.of (pe_cmpR ho ha hb hm) fun _ _ _ h => up_op h
theorem je_ix (ho : IxR X (upF2 f)) (ha : JE B X x a) (hb : JE B X y b) (hs : PlainIx y := by exact fun _ _ => rfl) : JE B X (.Subscript x y pos) (wOp f a b) := PE.of (pe_ix ho ha hb hs) fun _ _ _ h => up_op h
/-- a op b op' c -/
def wChain (f f' : F2) (a b c : WE) : WE := fun ρ μ Q => a ρ μ fun d μ1 => b ρ μ1 fun e μ2 => f d e μ2 fun z μ3 => isBl z fun k => Br k (c ρ μ3 fun g μ4 => f' e g μ4 Q) (Q (.bl false) μ3)
end
/-! ### tests, truths, choices -/
abbrev WT := Rho → Mu → (Bool → Mu → Prop) → Prop
def upT (B : Bs) (w : WT) : TT := fun σ H Q => ∃ ρ μ QD, RS B (MD μ) H ρ σ ∧ MH μ H ∧ w ρ μ QD ∧ ∀ b H' μ', Step (MD μ) H (MD μ') H' → MH μ' H' → QD b μ' → Q b H'
abbrev JT (B : Bs) (X : Cx) (e : Expr) (w : WT) : Prop := PT X e (upT B w)
abbrev JW (B : Bs) (X : Cx) (e : Expr) (w : WT) : Prop := PW X e (upT B w)
theorem upT_mk {w : WT} {σ : L2.St} {H : Hp} {Q : Bool → Hp → Prop} {ρ : Rho} {μ : Mu} {QD : Bool → Mu → Prop} (r : RS B (MD μ) H ρ σ) (m : MH μ H) (h : w ρ μ QD) (k : ∀ b H' μ', Step (MD μ) H (MD μ') H' → MH μ' H' → QD b μ' → Q b H') : upT B w σ H Q := ⟨ρ, μ, QD, r, m, h, k⟩
def wB (a : WE) : WT := fun ρ μ Q => a ρ μ fun d μ1 => isBl d fun b => Q b μ1
def wAndT (s t : WT) : WT := fun ρ μ Q => s ρ μ fun c μ1 => Br c (t ρ μ1 Q) (Q false μ1)
def wOrT (s t : WT) : WT := fun ρ μ Q => s ρ μ fun c μ1 => Br c (Q true μ1) (t ρ μ1 Q)
def wNotT (t : WT) : WT := fun ρ μ Q => t ρ μ fun c μ1 => Q (!c) μ1
def wIfE (t : WT) (a b : WE) : WE := fun ρ μ Q => t ρ μ fun c μ1 => Br c (a ρ μ1 Q) (b ρ μ1 Q)
def wAndV (a b : WE) : WE := fun ρ μ Q => a ρ μ fun d μ1 => isBl d fun c => Br c (b ρ μ1 Q) (Q (.bl false) μ1)
def wOrV (a b : WE) : WE := fun ρ μ Q => a ρ μ fun d μ1 => isBl d fun c => Br c (Q (.bl true) μ1) (b ρ μ1 Q)
def wNotV (a : WE) : WE := fun ρ μ Q => a ρ μ fun d μ1 => isBl d fun c => Q (.bl (!c)) μ1
section
variable {X : Cx} {x y z : Expr} {es : List Expr} {a b : WE} {s t : WT} {pos : Pos}
theorem up_tB {σ : L2.St} {H : Hp} {Q : Bool → Hp → Prop} (h : upT B (wB a) σ H Q) : up B a σ H (fun v H1 => ∃ c, v = .bl c ∧ Q c H1) := by
  obtain ⟨ρ, μ, QD, rs, m, h, k⟩ := h
  refine up_mk rs m h fun v H1 d μ1 s1 m1 v1 h1 => ?_
  obtain ⟨c, rfl, q⟩ := h1.val
  exact ⟨c, v1, k c H1 μ1 s1 m1 q⟩
/-- an expression whose value is a truth, as a test -/
theorem jt_val (h : JE B X x a) (he : ∀ whole, isTrue x X.env whole = (do let v ← whole; standAt x.pos; holding [v] (truthy v)) := by intro _; rfl) : JT B X x (wB a) := PT.of (pt_val h he) fun _ _ _ q => up_tB q
theorem jt_cmp {f : F2} {op : CmpOp} (ho : OpR X (compareOp op) (upF2 f)) (ha : JE B X x a) (hb : JE B X y b) (hm : behindInMarks op y = false := by first | exact nomark _ (by decide) (by decide) | rfl) : JT B X (.Compare x [op] [y] pos) (wB (wOp f a b)) :=
  PT.of (pt_cmpR ho ha hb hm) fun σ H Q h => up_op (up_tB h)
theorem jt_not (h : JT B X x t) : JT B X (.UnaryOp .Not x pos) (wNotT t) := PT.of (pt_not h) fun σ H Q ⟨ρ, μ, QD, rs, m, h, k⟩ => upT_mk rs m h fun c H1 μ1 s1 m1 h1 => k _ _ _ s1 m1 h1
theorem jw_and1 (h : JT B X x t) : JW B X (.BoolOp .And [x] pos) t := pw_and1 h
theorem jw_or1 (h : JT B X x t) : JW B X (.BoolOp .Or [x] pos) t := pw_or1 h
theorem jw_and (h : JT B X x s) (g : JW B X (.BoolOp .And (y :: es) pos) t) : JW B X (.BoolOp .And (x :: y :: es) pos) (wAndT s t) := PW.of (pw_and h g) fun σ H Q ⟨ρ, μ, QD, rs, m, h, k⟩ =>
  upT_mk rs m h fun c H1 μ1 s1 m1 h1 => (h1.mono (fun q => upT_mk (rs.step s1) m1 q fun b H2 μ2 s2 m2 h2 => k b H2 μ2 (s1.trans s2) m2 h2) fun q => k _ _ _ s1 m1 q).ite
theorem jw_or (h : JT B X x s) (g : JW B X (.BoolOp .Or (y :: es) pos) t) : JW B X (.BoolOp .Or (x :: y :: es) pos) (wOrT s t) := PW.of (pw_or h g) fun σ H Q ⟨ρ, μ, QD, rs, m, h, k⟩ =>
  upT_mk rs m h fun c H1 μ1 s1 m1 h1 => (h1.mono (fun q => k _ _ _ s1 m1 q) fun q => upT_mk (rs.step s1) m1 q fun b H2 μ2 s2 m2 h2 => k b H2 μ2 (s1.trans s2) m2 h2).ite
theorem jt_w (h : JW B X x t) : JT B X x t := h.pt
theorem je_if (h : JT B X z t) (ha : JE B X x a) (hb : JE B X y b) : JE B X (.IfExp z x y pos) (wIfE t a b) := PE.of (pe_ifExp h ha hb) fun σ H Q ⟨ρ, μ, QD, rs, m, h, k⟩ =>
  upT_mk rs m h fun c H1 μ1 s1 m1 h1 => (h1.mono (fun q => ⟨ρ, μ1, QD, rs.step s1, m1, q, fun v H2 z => k v H2 (z.trans s1)⟩) fun q => ⟨ρ, μ1, QD, rs.step s1, m1, q, fun v H2 z => k v H2 (z.trans s1)⟩).ite
theorem je_one {op} (h : JE B X x a) : JE B X (.BoolOp op [x] pos) a := pe_one h
theorem je_and (ha : JE B X x a) (hb : JE B X (.BoolOp .And (y :: es) pos) b) : JE B X (.BoolOp .And (x :: y :: es) pos) (wAndV a b) := PE.of (pe_and ha hb) fun σ H Q ⟨ρ, μ, QD, rs, m, h, k⟩ =>
  up_mk rs m h fun v H1 d μ1 s1 m1 v1 h1 => by
    obtain ⟨c, rfl, q⟩ := h1.val
    exact ⟨c, v1, (q.mono (fun q => ⟨ρ, μ1, QD, rs.step s1, m1, q, fun v H2 z => k v H2 (z.trans s1)⟩) fun q => k _ _ ⟨.bl false, μ1, s1, m1, rfl, q⟩).ite⟩
theorem je_not (ha : JE B X x a) : JE B X (.UnaryOp .Not x pos) (wNotV a) := PE.of (pe_not ha) fun σ H Q ⟨ρ, μ, QD, rs, m, h, k⟩ =>
  up_mk rs m h fun v H1 d μ1 s1 m1 v1 h1 => by
    obtain ⟨c, rfl, q⟩ := h1.val
    exact ⟨c, v1, k _ _ ⟨.bl (!c), μ1, s1, m1, rfl, q⟩⟩
end
end Dl
namespace Dl
open PySem PySem.Spec PyProof.Rows L2
variable {B : Bs}
/-! ### lists that are read, lists that may be worked with -/
/-- the items of a list that is data or may change -/
def Ls (μ : Mu) : D → List D → Prop
  | .lst xs, ds => xs = ds
  | .at l, ds => μ l = some (.lst ds)
  | _, _ => False
/-- .. or is read only -/
def Lr (μ : Mu) : D → List D → Prop
  | .lst xs, ds => xs = ds
  | .at l, ds => μ l = some (.lst ds) ∨ μ l = some (.ro ds)
  | _, _ => False
/-- the items of a list or tuple -/
def Sq (μ : Mu) : D → List D → Prop
  | .tup xs, ds => xs = ds
  | d, ds => Lr μ d ds
section
variable {μ : Mu} {H : Hp} {d : D} {ds : List D} {x : V}
theorem Ls.to (mh : MH μ H) (v : VD (MD μ) H d x) (h : Ls μ d ds) : ∃ a xs, x = .ref a ∧ H a = some (.lst xs) ∧ VDs (MD μ) H ds xs := by
  cases d with
  | lst es =>
    obtain ⟨a, xs, e, f, g⟩ := v
    have h' : es = ds := h
    subst h'
    exact ⟨a, xs, e, f.2, g⟩
  | «at» l =>
    obtain ⟨xs, e, g⟩ := mh l _ h
    exact ⟨l, xs, v, e, g⟩
  | _ => exact h.elim
theorem Lr.to (mh : MH μ H) (v : VD (MD μ) H d x) (h : Lr μ d ds) : ∃ a xs, x = .ref a ∧ Rd H a (.lst xs) ∧ VDs (MD μ) H ds xs := by
  cases d with
  | lst es =>
    obtain ⟨a, xs, e, f, g⟩ := v
    have h' : es = ds := h
    subst h'
    exact ⟨a, xs, e, .inl f.2, g⟩
  | «at» l =>
    rcases h with h | h
    · obtain ⟨xs, e, g⟩ := mh l _ h
      exact ⟨l, xs, v, .inl e, g⟩
    · obtain ⟨xs, e, g⟩ := mh l _ h
      exact ⟨l, xs, v, e, g⟩
  | _ => exact h.elim
theorem Sq.to (K : Frg) (mh : MH μ H) (v : VD (MD μ) H d x) (h : Sq μ d ds) : ∃ a xs, x = .ref a ∧ (SqL K H a xs ∨ SqT K H a xs) ∧ VDs (MD μ) H ds xs := by
  cases d with
  | tup es =>
    obtain ⟨a, xs, e, f, g⟩ := v
    have h' : es = ds := h
    subst h'
    exact ⟨a, xs, e, .inr (SqT.of f.2), g⟩
  | lst es =>
    obtain ⟨a, xs, e, f, g⟩ := Lr.to mh v (show Lr μ (.lst es) ds from h)
    exact ⟨a, xs, e, .inl (.inl f), g⟩
  | «at» l =>
    obtain ⟨a, xs, e, f, g⟩ := Lr.to mh v (show Lr μ (.at l) ds from h)
    exact ⟨a, xs, e, .inl (.inl f), g⟩
  | _ => exact h.elim
end
/-! ### what data come to -/
mutual
inductive Rs (μ : Mu) : D → PyData → Prop
  | non : Rs μ .non .none
  | bl (b : Bool) : Rs μ (.bl b) (.bool b)
  | int (i : Int) : Rs μ (.int i) (.int i)
  | str (x : Str) : Rs μ (.str x) (.str x)
  | lst {ds : List D} {ps : List PyData} : Rss μ ds ps → Rs μ (.lst ds) (.list ps)
  | tup {ds : List D} {ps : List PyData} : Rss μ ds ps → Rs μ (.tup ds) (.tuple ps)
  | «at» {l : Addr} {ds : List D} {ps : List PyData} : μ l = some (.lst ds) → Rss μ ds ps → Rs μ (.at l) (.list ps)
inductive Rss (μ : Mu) : List D → List PyData → Prop
  | nil : Rss μ [] []
  | cons {d : D} {ds : List D} {p : PyData} {ps : List PyData} : Rs μ d p → Rss μ ds ps → Rss μ (d :: ds) (p :: ps)
end
theorem Rss.map {α : Type} {μ : Mu} {f : α → D} {g : α → PyData} : ∀ {l : List α}, (∀ x ∈ l, Rs μ (f x) (g x)) → Rss μ (l.map f) (l.map g)
  | [], _ => .nil
  | x :: l, h => .cons (h x List.mem_cons_self) (Rss.map fun y hy => h y (List.mem_cons_of_mem _ hy))
mutual
theorem Rs.dp {K : Frg} {μ : Mu} {H : Hp} (mh : MH μ H) : ∀ (p : PyData) (d : D) (v : V), Rs μ d p → VD (MD μ) H d v → Dp K H v p
  | .none, _, _, r, h => by cases r; rw [show _ = V.non from h]; exact .non
  | .bool b, _, _, r, h => by cases r; rw [show _ = V.bl b from h]; exact .bl b
  | .int i, _, _, r, h => by cases r; rw [show _ = V.int i from h]; exact .int i
  | .str x, _, _, r, h => by cases r; rw [show _ = V.str x from h]; exact .str x
  | .list ps, _, _, r, h => by
    cases r with
    | lst rs =>
      obtain ⟨a, xs, rfl, f, g⟩ := h
      exact .lst (SqL.of f.2) (Rss.dp mh ps _ _ rs g)
    | «at» e rs =>
      obtain ⟨xs, q, g⟩ := mh _ _ e
      rw [show _ = V.ref _ from h]
      exact .lst (SqL.of q) (Rss.dp mh ps _ _ rs g)
  | .tuple ps, _, _, r, h => by
    cases r with
    | tup rs =>
      obtain ⟨a, xs, rfl, f, g⟩ := h
      exact .tup (SqT.of f.2) (Rss.dp mh ps _ _ rs g)
  | .dict _, _, _, r, _ => by cases r
theorem Rss.dp {K : Frg} {μ : Mu} {H : Hp} (mh : MH μ H) : ∀ (ps : List PyData) (ds : List D) (vs : List V), Rss μ ds ps → VDs (MD μ) H ds vs → DpAll K H vs ps
  | [], _, _, r, h => by cases r; rw [show _ = [] from h]; exact .nil
  | p :: ps, _, _, r, h => by
    cases r with
    | cons r1 r2 =>
      obtain ⟨v, vs, rfl, h1, h2⟩ := h
      exact .cons (Rs.dp mh p _ _ r1 h1) (Rss.dp mh ps _ _ r2 h2)
end
mutual
theorem Rs.plain {μ : Mu} : ∀ (p : PyData) (d : D), Rs μ d p → p.plain = true
  | .none, _, _ => rfl
  | .bool _, _, _ => rfl
  | .int _, _, _ => rfl
  | .str _, _, _ => rfl
  | .list ps, _, r => by
    show PyData.plainAll ps = true
    cases r with
    | lst rs => exact Rss.plain ps _ rs
    | «at» e rs => exact Rss.plain ps _ rs
  | .tuple ps, _, r => by
    show PyData.plainAll ps = true
    cases r with
    | tup rs => exact Rss.plain ps _ rs
  | .dict _, _, r => by cases r
theorem Rss.plain {μ : Mu} : ∀ (ps : List PyData) (ds : List D), Rss μ ds ps → PyData.plainAll ps = true
  | [], _, _ => rfl
  | p :: ps, _, r => by
    cases r with
    | cons r1 r2 => simp only [PyData.plainAll, Rs.plain p _ r1, Rss.plain ps _ r2, Bool.and_self]
end
/-! ### == and != -/
def EqQ (μ : Mu) (d e : D) (Q : Bool → Prop) : Prop := match d, e with
  | .int i, .int j => Q (decide (i = j))
  | .str x, .str y => Q (decide (x = y))
  | .bl a, .bl b => Q (decide (a = b))
  | d, e => ∃ p q, Rs μ d p ∧ Rs μ e q ∧ min p.depth q.depth ≤ 60 ∧ Q (PyData.eqv p q)
theorem EqQ.to {μ : Mu} {d e : D} {Q : Bool → Prop} (h : EqQ μ d e Q) : ∃ p q, Rs μ d p ∧ Rs μ e q ∧ min p.depth q.depth ≤ 60 ∧ Q (PyData.eqv p q) := by
  unfold EqQ at h
  split at h
  · rename_i i j
    refine ⟨.int i, .int j, .int i, .int j, by simp [PyData.depth], ?_⟩
    simp only [PyData.eqv]; rw [Bool.beq_eq_decide_eq]; exact h
  · rename_i i j
    refine ⟨.str i, .str j, .str i, .str j, by simp [PyData.depth], ?_⟩
    simp only [PyData.eqv]; rw [Bool.beq_eq_decide_eq]; exact h
  · rename_i i j
    refine ⟨.bool i, .bool j, .bl i, .bl j, by simp [PyData.depth], ?_⟩
    simp only [PyData.eqv]; rw [Bool.beq_eq_decide_eq]; exact h
  · exact h
def fEq : F2 := fun d e μ Q => EqQ μ d e fun b => Q (.bl b) μ
def fNe : F2 := fun d e μ Q => EqQ μ d e fun b => Q (.bl (!b)) μ
section
variable {X : Cx}
theorem od_eq (hu : X.A.units + 65 < cLine) : OpR X (compareOp .Eq) (upF2 fEq) := fun pins s σ H x y v u Q I rx ry ⟨d, e, μ, QD, hx, hy, mh, h, k⟩ => by
  obtain ⟨p, q, rp, rq, sp, hq⟩ := EqQ.to h
  obtain ⟨as, r1⟩ := Dp.reads I p x v (Rs.dp mh p d x rp hx) rx
  obtain ⟨bs, r2⟩ := Dp.reads I q y u (Rs.dp mh q e y rq hy) ry
  exact SeqAt.eq_plain r1 r2 (rp.plain p d) (rq.plain q e) (by omega) ⟨.bl _, H, I, rfl, k _ _ (lft_mk (d := .bl _) mh rfl hq)⟩
theorem od_ne (hu : X.A.units + 65 < cLine) : OpR X (compareOp .NotEq) (upF2 fNe) := fun pins s σ H x y v u Q I rx ry ⟨d, e, μ, QD, hx, hy, mh, h, k⟩ => by
  obtain ⟨p, q, rp, rq, sp, hq⟩ := EqQ.to h
  obtain ⟨as, r1⟩ := Dp.reads I p x v (Rs.dp mh p d x rp hx) rx
  obtain ⟨bs, r2⟩ := Dp.reads I q y u (Rs.dp mh q e y rq hy) ry
  exact SeqAt.ne_plain r1 r2 (rp.plain p d) (rq.plain q e) (by omega) ⟨.bl _, H, I, rfl, k _ _ (lft_mk (d := .bl _) mh rfl hq)⟩
/-! ### x in xs, of data -/
def fIn (n : Bool) : F2 := fun d e μ Q => ∃ p qs, Rs μ d p ∧ (Rs μ e (.list qs) ∨ Rs μ e (.tuple qs)) ∧ min (PyData.depthAll qs) p.depth ≤ 60 ∧ Q (.bl (if n then !qs.any (fun z => PyData.eqv z p) else qs.any fun z => PyData.eqv z p)) μ
theorem od_notin (hu : X.A.units + 65 < cLine) : OpR X (compareOp .NotIn) (upF2 (fIn true)) := fun pins s σ H x y v u Q I rx ry ⟨d, e, μ, QD, hx, hy, mh, ⟨p, qs, rp, rq, sp, hq⟩, k⟩ => by
  obtain ⟨as, r1⟩ := Dp.reads I p x v (Rs.dp mh p d x rp hx) rx
  rcases rq with rq | rq
  · obtain ⟨bs, r2⟩ := Dp.reads I (.list qs) y u (Rs.dp mh _ e y rq hy) ry
    exact SeqAt.notIn_list_data r2 r1 (rq.plain _ e) (rp.plain p d) (by omega) ⟨.bl _, H, I, rfl, k _ _ (lft_mk (d := .bl _) mh rfl hq)⟩
  · obtain ⟨bs, r2⟩ := Dp.reads I (.tuple qs) y u (Rs.dp mh _ e y rq hy) ry
    exact SeqAt.notIn_tuple_data r2 r1 (rq.plain _ e) (rp.plain p d) (by omega) ⟨.bl _, H, I, rfl, k _ _ (lft_mk (d := .bl _) mh rfl hq)⟩
/-! ### arithmetic -/
def fAdd (m : Bool) : F2 := fun d e μ Q => match d, e with
  | .int i, .int j => Q (.int (i + j)) μ
  | .str x, .str y => x.length + y.length ≤ sizeLine ∧ Q (.str (x ++ y)) μ
  | .tup xs, .tup ys => xs ≠ [] ∧ xs.length + ys.length ≤ sizeLine ∧ Q (.tup (xs ++ ys)) μ
  | d, e => ∃ xs ys, Ls μ d xs ∧ Ls μ e ys ∧ xs.length + ys.length ≤ sizeLine ∧ New m (xs ++ ys) μ Q
theorem od_add (m : Bool) : OpR X (binaryOp .Add) (upF2 (fAdd m)) := OpR.of ((op_add.or op_add_str).or (op_catT.or op_cat)) fun x y H Q ⟨d, e, μ, QD, hx, hy, mh, h, k⟩ => by
  unfold fAdd at h
  split at h
  · rename_i i j
    exact .inl (.inl ⟨i, j, hx, hy, k _ _ (lft_mk (d := .int _) mh rfl h)⟩)
  · rename_i i j
    exact .inl (.inr ⟨i, j, hx, hy, h.1, k _ _ (lft_mk (d := .str _) mh rfl h.2)⟩)
  · rename_i i j
    obtain ⟨a, xs, ex, f, g⟩ := hx
    obtain ⟨b, ys, ey, f2, g2⟩ := hy
    have l1 := g.length
    have l2 := g2.length
    refine .inr (.inl ⟨a, b, xs, ys, ex, ey, SqT.of f.2, SqT.of f2.2, ?_, by omega, ?_⟩)
    · intro e0
      rw [e0] at l1
      exact h.1 (List.length_eq_zero_iff.mp l1)
    · refine ⟨fun c => ?_, fun _ p hp => k _ _ (lft_tup mh (g.append g2) hp h.2.2)⟩
      have c' : j = [] := by
        rw [c] at l2
        exact List.length_eq_zero_iff.mp l2
      have hq := h.2.2
      rw [c', List.append_nil] at hq
      rw [← ex]
      exact k _ _ (lft_mk (d := .tup i) mh ⟨a, xs, ex, f, g⟩ hq)
  · obtain ⟨xs, ys, h1, h2, h3, h4⟩ := h
    obtain ⟨a, vs, ex, f, g⟩ := h1.to mh hx
    obtain ⟨b, ws, ey, f2, g2⟩ := h2.to mh hy
    exact .inr (.inr ⟨a, b, vs, ws, ex, ey, f, f2, by rw [← g.length, ← g2.length]; exact h3, fun p hp => k _ _ (lft_new mh (g.append g2) hp h4)⟩)
/-- ints in, under a condition -/
def fI (C : Int → Int → Prop) (g : Int → Int → D) : F2 := fun d e μ Q => match d, e with
  | .int i, .int j => C i j ∧ Q (g i j) μ
  | _, _ => False
def fI0 (g : Int → Int → D) : F2 := fun d e μ Q => match d, e with
  | .int i, .int j => Q (g i j) μ
  | _, _ => False
theorem od_I {f : Value → Value → Sem Value} {C : Int → Int → Prop} {gv : Int → Int → V} {g : Int → Int → D} (h : OpR X f (rI C gv)) (r : ∀ M H i j, VD M H (g i j) (gv i j)) : OpR X f (upF2 (fI C g)) := OpR.of h fun x y H Q ⟨d, e, μ, QD, hx, hy, mh, h, k⟩ => by
  unfold fI at h
  split at h
  · rename_i i j
    exact ⟨i, j, hx, hy, h.1, k _ _ (lft_mk mh (r _ _ _ _) h.2)⟩
  · exact h.elim
theorem od_I0 {f : Value → Value → Sem Value} {gv : Int → Int → V} {g : Int → Int → D} (h : OpR X f (rI0 gv)) (r : ∀ M H i j, VD M H (g i j) (gv i j)) : OpR X f (upF2 (fI0 g)) := OpR.of h fun x y H Q ⟨d, e, μ, QD, hx, hy, mh, h, k⟩ => by
  unfold fI0 at h
  split at h
  · rename_i i j
    exact ⟨i, j, hx, hy, k _ _ (lft_mk mh (r _ _ _ _) h)⟩
  · exact h.elim
theorem od_sub : OpR X (binaryOp .Sub) (upF2 (fI0 fun i j => .int (i - j))) := od_I0 op_sub fun _ _ _ _ => rfl
theorem od_fdiv : OpR X (binaryOp .FloorDiv) (upF2 (fI CDivW fun i j => .int (i / j))) := od_I op_fdivW fun _ _ _ _ => rfl
theorem od_mod : OpR X (binaryOp .Mod) (upF2 (fI (fun _ j => 0 < j) fun i j => .int (i % j))) := od_I op_mod fun _ _ _ _ => rfl
theorem od_pow : OpR X (binaryOp .Pow) (upF2 (fI CPow fun i j => .int (i ^ j.toNat))) := od_I op_pow fun _ _ _ _ => rfl
theorem od_lt : OpR X (compareOp .Lt) (upF2 (fI0 fun i j => .bl (decide (i < j)))) := od_I0 op_lt fun _ _ _ _ => rfl
theorem od_le : OpR X (compareOp .LtE) (upF2 (fI0 fun i j => .bl (decide (i ≤ j)))) := od_I0 op_le fun _ _ _ _ => rfl
theorem od_gt : OpR X (compareOp .Gt) (upF2 (fI0 fun i j => .bl (decide (j < i)))) := od_I0 op_gt fun _ _ _ _ => rfl
theorem od_ge : OpR X (compareOp .GtE) (upF2 (fI0 fun i j => .bl (decide (j ≤ i)))) := od_I0 op_ge fun _ _ _ _ => rfl
/-- a product; a list times an int -/
def fMul (m : Bool) : F2 := fun d e μ Q => match d, e with
  | .int i, .int j => CMul i j ∧ Q (.int (i * j)) μ
  | d, .int j => ∃ xs, Ls μ d xs ∧ 0 ≤ j ∧ j < 2 ^ 63 ∧ xs.length * j.toNat ≤ sizeLine ∧ New m (List.replicate j.toNat xs).flatten μ Q
  | _, _ => False
theorem VDs.rep {M : Ms} {H : Hp} {ds : List D} {vs : List V} (h : VDs M H ds vs) : ∀ n : Nat, VDs M H (List.replicate n ds).flatten (List.replicate n vs).flatten
  | 0 => rfl
  | n + 1 => by
    rw [List.replicate_succ, List.replicate_succ, List.flatten_cons, List.flatten_cons]
    exact h.append (VDs.rep h n)
theorem od_mul (m : Bool) : OpR X (binaryOp .Mult) (upF2 (fMul m)) := OpR.of (op_mul.or op_rep) fun x y H Q ⟨d, e, μ, QD, hx, hy, mh, h, k⟩ => by
  unfold fMul at h
  split at h
  · rename_i i j
    exact .inl ⟨i, j, hx, hy, h.1, k _ _ (lft_mk (d := .int _) mh rfl h.2)⟩
  · rename_i j _
    obtain ⟨xs, h1, h2, h3, h4, h5⟩ := h
    obtain ⟨a, vs, ex, f, g⟩ := h1.to mh hx
    refine .inr ⟨a, j, vs, ex, hy, f, by omega, h3, by rw [← g.length]; exact h4, ?_⟩
    exact fun p hp => k _ _ (lft_new mh (VDs.rep g j.toNat) hp h5)
  · exact h.elim
def fNeg : F1 := fun d μ Q => match d with
  | .int i => Q (.int (-i)) μ
  | _ => False
theorem ud_neg : UnR X (unaryOp .USub) (upF1 fNeg) := UnR.of un_neg fun x H Q ⟨d, μ, QD, hx, mh, h, k⟩ => by
  unfold fNeg at h
  split at h
  · rename_i i
    exact ⟨i, hx, k _ _ (lft_mk (d := .int _) mh rfl h)⟩
  · exact h.elim
/-- is None, is not None -/
def nonD : D → Bool
  | .non => true
  | _ => false
theorem nonD_of {M : Ms} {H : Hp} {d : D} {v : V} (h : VD M H d v) : decide (v = V.non) = nonD d := by
  cases d with
  | non => rw [show v = V.non from h]; rfl
  | bl b => rw [show v = V.bl b from h]; rfl
  | int b => rw [show v = V.int b from h]; rfl
  | str b => rw [show v = V.str b from h]; rfl
  | ty b => rw [show v = V.ty b from h]; rfl
  | «at» b => rw [show v = V.ref b from h]; rfl
  | lst b => obtain ⟨a, xs, e, _⟩ := h; rw [e]; rfl
  | tup b => obtain ⟨a, xs, e, _⟩ := h; rw [e]; rfl
def fIsN (n : Bool) : F2 := fun d e μ Q => match e with
  | .non => Q (.bl (if n then !nonD d else nonD d)) μ
  | _ => False
theorem od_notN : OpR X (compareOp .IsNot) (upF2 (fIsN true)) := OpR.of op_notN fun x y H Q ⟨d, e, μ, QD, hx, hy, mh, h, k⟩ => by
  unfold fIsN at h
  split at h
  · exact ⟨hy, by rw [nonD_of hx]; exact k _ _ (lft_mk (d := .bl _) mh rfl h)⟩
  · exact h.elim
/-! ### items -/
theorem atI_rel {M : Ms} {H : Hp} {ds : List D} {vs : List V} {i : Int} {d : D} (g : VDs M H ds vs) (h : atI ds i = some d) : ∃ v, atI vs i = some v ∧ VD M H d v := by
  unfold atI at *
  rw [← g.length]
  cases e : ixN ds.length i with
  | none => rw [e] at h; cases h
  | some j =>
    rw [e] at h
    exact g.get h
def fIx : F2 := fun d e μ Q => match d, e with
  | .str z, .int i => ∃ c, z.length ≤ sizeLine ∧ atI z.cps.toList i = some c ∧ Q (.str ⟨#[c]⟩) μ
  | d, .int i => ∃ ds z, Sq μ d ds ∧ atI ds i = some z ∧ Q z μ
  | _, _ => False
theorem id_ix : IxR X (upF2 fIx) := IxR.of ix_seq fun x y H Q ⟨d, e, μ, QD, hx, hy, mh, h, k⟩ => by
  unfold fIx at h
  split at h
  · rename_i z i
    obtain ⟨c, h1, h2, h3⟩ := h
    exact .inr (.inr ⟨z, i, c, hx, hy, h1, h2, k _ _ (lft_mk (d := .str _) mh rfl h3)⟩)
  · rename_i i _
    obtain ⟨ds, z, h1, h2, h3⟩ := h
    obtain ⟨a, vs, ex, f, g⟩ := h1.to X.K mh hx
    obtain ⟨v, e1, e2⟩ := atI_rel g h2
    have q := k _ _ (lft_mk mh e2 h3)
    rcases f with f | f
    · exact .inl ⟨a, vs, i, v, ex, hy, f, e1, q⟩
    · exact .inr (.inl ⟨a, vs, i, v, ex, hy, f, e1, q⟩)
  · exact h.elim
end
end Dl
namespace Dl
open PySem PySem.Spec PyProof.Rows L2
variable {B : Bs}
/-! ### statements -/
structure Ed where
  nx : Rho → Mu → Prop
  rt : D → Mu → Prop
  bk : Rho → Mu → Prop := fun _ _ => False
  ct : Rho → Mu → Prop := fun _ _ => False
abbrev WS := Ed → Rho → Mu → Prop
structure EdLe (B : Bs) (DD : Ed) (E : Ends) (μ : Mu) (H : Hp) : Prop where
  nx : ∀ σ' H' ρ' μ', Step (MD μ) H (MD μ') H' → RS B (MD μ') H' ρ' σ' → MH μ' H' → DD.nx ρ' μ' → E.nx σ' H'
  rt : ∀ v H' d μ', Step (MD μ) H (MD μ') H' → MH μ' H' → VD (MD μ') H' d v → DD.rt d μ' → E.rt v H'
  bk : ∀ σ' H' ρ' μ', Step (MD μ) H (MD μ') H' → RS B (MD μ') H' ρ' σ' → MH μ' H' → DD.bk ρ' μ' → E.bk σ' H'
  ct : ∀ σ' H' ρ' μ', Step (MD μ) H (MD μ') H' → RS B (MD μ') H' ρ' σ' → MH μ' H' → DD.ct ρ' μ' → E.ct σ' H'
theorem EdLe.step {DD : Ed} {E : Ends} {μ μ1 : Mu} {H H1 : Hp} (s : Step (MD μ) H (MD μ1) H1) (l : EdLe B DD E μ H) : EdLe B DD E μ1 H1 :=
  ⟨fun σ H' ρ μ' a b c d => l.nx σ H' ρ μ' (s.trans a) b c d, fun v H' d μ' a b c e => l.rt v H' d μ' (s.trans a) b c e, fun σ H' ρ μ' a b c d => l.bk σ H' ρ μ' (s.trans a) b c d, fun σ H' ρ μ' a b c d => l.ct σ H' ρ μ' (s.trans a) b c d⟩
def upS (B : Bs) (w : WS) : TS := fun E σ H => ∃ ρ μ DD, RS B (MD μ) H ρ σ ∧ MH μ H ∧ w DD ρ μ ∧ EdLe B DD E μ H
abbrev JS (B : Bs) (X : Cx) (st : Stmt) (w : WS) : Prop := PS X st (upS B w)
abbrev JSs (B : Bs) (X : Cx) (st : List Stmt) (w : WS) : Prop := PSs X st (upS B w)
theorem PS.of {X : Cx} {st : Stmt} {t t' : TS} (h : PS X st t) (g : ∀ D σ H, t' D σ H → t D σ H) : PS X st t' := ⟨fun pins s σ H D I q => h.run pins s σ H D I (g D σ H q)⟩
theorem PSs.of {X : Cx} {st : List Stmt} {t t' : TS} (h : PSs X st t) (g : ∀ D σ H, t' D σ H → t D σ H) : PSs X st t' := ⟨fun pins s σ H D I q => h.run pins s σ H D I (g D σ H q)⟩
def wNext : WS := fun DD ρ μ => DD.nx ρ μ
def wSeq (a b : WS) : WS := fun DD ρ μ => a { nx := fun ρ1 μ1 => b DD ρ1 μ1, rt := DD.rt, bk := DD.bk, ct := DD.ct } ρ μ
def wDrop (a : WE) : WS := fun DD ρ μ => a ρ μ fun _ μ1 => DD.nx ρ μ1
def wRet (a : WE) : WS := fun DD ρ μ => a ρ μ fun d μ1 => DD.rt d μ1
def wRetN : WS := fun DD _ μ => DD.rt .non μ
def wIf (t : WT) (a b : WS) : WS := fun DD ρ μ => t ρ μ fun c μ1 => Br c (a DD ρ μ1) (b DD ρ μ1)
def wSet (i : Nat) (a : WE) : WS := fun DD ρ μ => a ρ μ fun d μ1 => DD.nx (ρ.set i (some d)) μ1
def wBreak : WS := fun DD ρ μ => DD.bk ρ μ
def wCont : WS := fun DD ρ μ => DD.ct ρ μ
def wNever : WS := fun _ _ _ => False
section
variable {X : Cx} {st : Stmt} {rest : List Stmt} {a b : WS} {e : Expr} {w : WE} {t : WT} {pos : Pos}
theorem jss_nil : JSs B X [] wNext := PSs.of pss_nil fun E σ H ⟨ρ, μ, DD, rs, m, h, l⟩ => l.nx σ H ρ μ .refl rs m h
theorem jss_cons (h1 : JS B X st a) (h2 : JSs B X rest b) : JSs B X (st :: rest) (wSeq a b) := PSs.of (pss_cons h1 h2) fun E σ H ⟨ρ, μ, DD, rs, m, h, l⟩ =>
  ⟨ρ, μ, _, rs, m, h, ⟨fun σ' H' ρ' μ' s r m' q => ⟨ρ', μ', DD, r, m', q, l.step s⟩, l.rt, l.bk, l.ct⟩⟩
theorem jss_one (h1 : JS B X st a) : JSs B X [st] a := pss_one h1
theorem js_never : JS B X st wNever := PS.of ps_never fun E σ H ⟨ρ, μ, DD, rs, m, h, l⟩ => h
theorem js_expr (he : JE B X e w) (hs : swapsWith e none pos.line X.env = pure false := by rfl) : JS B X (.Expr e pos) (wDrop w) := PS.of (ps_expr he hs) fun E σ H ⟨ρ, μ, DD, rs, m, h, l⟩ =>
  up_mk rs m h fun v H' d μ' s m' _ q => l.nx σ H' ρ μ' s (rs.step s) m' q
theorem js_ret (he : JE B X e w) : JS B X (.Return (some e) pos) (wRet w) := PS.of (ps_ret he) fun E σ H ⟨ρ, μ, DD, rs, m, h, l⟩ => up_mk rs m h fun v H' d μ' s m' r q => l.rt v H' d μ' s m' r q
theorem js_if {c : Expr} {x y : List Stmt} (hc : JT B X c t) (ha : JSs B X x a) (hb : JSs B X y b) : JS B X (.If c x y pos) (wIf t a b) := PS.of (ps_if hc ha hb) fun E σ H ⟨ρ, μ, DD, rs, m, h, l⟩ =>
  upT_mk rs m h fun k H1 μ1 s1 m1 h1 => (h1.mono (fun q => ⟨ρ, μ1, DD, rs.step s1, m1, q, l.step s1⟩) fun q => ⟨ρ, μ1, DD, rs.step s1, m1, q, l.step s1⟩).ite
theorem js_set (i : Nat) {x : Str} {pos' : Pos} (he : JE B X e w) (hN : X.N.Nodup) (hi : X.N[i]? = some x := by rfl) (hx : Loc X.env.scope x := by first | exact Or.inl rfl | exact Or.inr rfl) (hs : swapsWith e (some (.Name x pos')) pos.line X.env = pure false := by rfl)
    (hf : X.fn x = true ∨ X.env.scope.names.lookup x = some .local := by first | exact .inl rfl | exact .inr rfl) : JS B X (.Assign [.Name x pos'] e pos) (wSet i w) := PS.of (ps_set hN hi hx he hs hf) fun E σ H ⟨ρ, μ, DD, rs, m, h, l⟩ =>
  up_mk rs m h fun v H' d μ' s m' r q => l.nx _ H' _ μ' s ((rs.step s).set i r) m' q
end
/-! ### targets -/
abbrev WG := D → Rho → Mu → (Rho → Mu → Prop) → Prop
abbrev WGs := List D → Rho → Mu → (Rho → Mu → Prop) → Prop
def upG (B : Bs) (w : WG) : TG := fun v σ H Q => ∃ d ρ μ QD, VD (MD μ) H d v ∧ RS B (MD μ) H ρ σ ∧ MH μ H ∧ w d ρ μ QD ∧ ∀ σ' H' ρ' μ', Step (MD μ) H (MD μ') H' → RS B (MD μ') H' ρ' σ' → MH μ' H' → QD ρ' μ' → Q σ' H'
def upGs (B : Bs) (w : WGs) : TGs := fun vs σ H Q => ∃ ds ρ μ QD, VDs (MD μ) H ds vs ∧ RS B (MD μ) H ρ σ ∧ MH μ H ∧ w ds ρ μ QD ∧ ∀ σ' H' ρ' μ', Step (MD μ) H (MD μ') H' → RS B (MD μ') H' ρ' σ' → MH μ' H' → QD ρ' μ' → Q σ' H'
abbrev JG (B : Bs) (X : Cx) (e : Expr) (w : WG) : Prop := PG X e (upG B w)
abbrev JGs (B : Bs) (X : Cx) (es : List Expr) (w : WGs) : Prop := PGs X es (upGs B w)
theorem PG.of {X : Cx} {e : Expr} {t t' : TG} (h : PG X e t) (g : ∀ v σ H Q, t' v σ H Q → t v σ H Q) : PG X e t' := ⟨fun pins s σ H v u Q I r q => h.run pins s σ H v u Q I r (g v σ H Q q)⟩
theorem PGs.of {X : Cx} {es : List Expr} {t t' : TGs} (h : PGs X es t) (g : ∀ v σ H Q, t' v σ H Q → t v σ H Q) : PGs X es t' := ⟨fun pins s σ H v u Q I r q => h.run pins s σ H v u Q I r (g v σ H Q q)⟩
def wgName (i : Nat) : WG := fun d ρ μ Q => Q (ρ.set i (some d)) μ
def wgNil : WGs := fun ds ρ μ Q => ds = [] ∧ Q ρ μ
def wgCons (a : WG) (r : WGs) : WGs := fun ds ρ μ Q => ∃ d es, ds = d :: es ∧ a d ρ μ fun ρ1 μ1 => r es ρ1 μ1 Q
/-- (a, b, ..) = a tuple -/
def wgTup (n : Nat) (r : WGs) : WG := fun d ρ μ Q => match d with
  | .tup ds => ds.length = n ∧ r ds ρ μ Q
  | _ => False
section
variable {X : Cx} {e : Expr} {es : List Expr} {a : WG} {r : WGs} {pos : Pos}
theorem jg_name (i : Nat) {x : Str} (hN : X.N.Nodup) (hi : X.N[i]? = some x := by rfl) (hx : Loc X.env.scope x := by first | exact Or.inl rfl | exact Or.inr rfl) (hf : X.fn x = true ∨ X.env.scope.names.lookup x = some .local := by first | exact .inl rfl | exact .inr rfl) : JG B X (.Name x pos) (wgName i) :=
  PG.of (pg_name hN hi hx hf) fun v σ H Q ⟨d, ρ, μ, QD, vd, rs, m, h, k⟩ => k _ H _ μ .refl (rs.set i vd) m h
theorem jgs_nil : JGs B X [] wgNil := PGs.of pgs_nil fun v σ H Q ⟨ds, ρ, μ, QD, vd, rs, m, ⟨e, h⟩, k⟩ => ⟨by subst e; exact vd, k σ H ρ μ .refl rs m h⟩
theorem jgs_cons (h1 : JG B X e a) (h2 : JGs B X es r) (hs : (assignEach (e :: es) X.env).map (·.2) = assign e X.env :: (assignEach es X.env).map (·.2) := by rfl) : JGs B X (e :: es) (wgCons a r) := PGs.of (pgs_cons h1 h2 hs) fun v σ H Q ⟨ds, ρ, μ, QD, vd, rs, m, ⟨d, es', e, h⟩, k⟩ => by
  subst e
  obtain ⟨x, xs, rfl, v1, v2⟩ := vd
  exact ⟨x, xs, rfl, d, ρ, μ, _, v1, rs, m, h, fun σ' H' ρ' μ' s rs' m' h' => ⟨es', ρ', μ', QD, VDs.step s _ _ v2, rs', m', h', fun σ2 H2 ρ2 μ2 s2 => k σ2 H2 ρ2 μ2 (s.trans s2)⟩⟩
theorem jg_tup {k : Nat} (n : Nat) (hc : X.calm = true) (h : JGs B X es r) (hn : (assignEach es X.env).length = n := by rfl) (hst : (assignEach es X.env).findIdx? (·.1) = none := by rfl) : JG B X (.Tuple es k pos) (wgTup n r) := PG.of (pg_tup hc h hn hst) fun v σ H Q ⟨d, ρ, μ, QD, vd, rs, m, h, kk⟩ => by
  unfold wgTup at h
  split at h
  · rename_i ds
    obtain ⟨p, xs, ev, f, g⟩ := vd
    exact ⟨p, xs, ev, SqT.of f.2, by rw [← g.length]; exact h.1, ds, ρ, μ, QD, g, rs, m, h.2, kk⟩
  · exact h.elim
/-- o[i] = v by data: Q of the store behind it -/
abbrev F3 := D → D → D → Mu → (Mu → Prop) → Prop
def upF3 (r : F3) : TSet := fun x y z H Q => ∃ d e f μ QD, VD (MD μ) H d x ∧ VD (MD μ) H e y ∧ VD (MD μ) H f z ∧ MH μ H ∧ r d e f μ QD ∧ ∀ H' μ', Step (MD μ) H (MD μ') H' → MH μ' H' → QD μ' → Q H'
theorem PSet.of {t t' : TSet} (h : PSet X t) (g : ∀ x y z H Q, t' x y z H Q → t x y z H Q) : PSet X t' := fun pins s σ H x y z a b c Q I r1 r2 r3 q => h pins s σ H x y z a b c Q I r1 r2 r3 (g x y z H Q q)
def wgSub (o i : WE) (t : F3) : WG := fun v ρ μ Q => o ρ μ fun d μ1 => i ρ μ1 fun e μ2 => t d e v μ2 fun μ3 => Q ρ μ3
theorem jg_sub {o i : Expr} {wo wi : WE} {t : F3} (ho : JE B X o wo) (hi : JE B X i wi) (hs : PSet X (upF3 t)) (hsl : ∀ v, assign (.Subscript o i pos) X.env v = (do let ov ← holding [v] (eval o X.env); let iv ← holding [v, ov] (eval i X.env); standAt pos; holding [v, ov, iv] (setItem ov iv v); release [v, ov, iv] []) := by intro _; rfl) : JG B X (.Subscript o i pos) (wgSub wo wi t) :=
  PG.of (pg_sub ho hi hs hsl) fun v σ H Q ⟨f, ρ, μ, QD, vd, rs, m, h, k⟩ => up_mk rs m h fun x H1 d μ1 s1 m1 v1 h1 => up_mk (rs.step s1) m1 h1 fun y H2 e μ2 s2 m2 v2 h2 =>
    ⟨d, e, f, μ2, _, VD.step s2 _ _ v1, v2, VD.step (s1.trans s2) _ _ vd, m2, h2, fun H3 μ3 s3 m3 h3 => k _ H3 _ μ3 ((s1.trans s2).trans s3) (rs.step ((s1.trans s2).trans s3)) m3 h3⟩
/-- xs[k] = v -/
def f3List : F3 := fun d e v μ Q => match d, e with
  | .at l, .int k => ∃ ds j, μ l = some (.lst ds) ∧ ixN ds.length k = some j ∧ Q (put μ l (.lst (ds.set j v)))
  | _, _ => False
theorem set_lst : PSet X (upF3 f3List) := PSet.of set_list fun x y z H Q ⟨d, e, f, μ, QD, v1, v2, v3, m, h, k⟩ => by
  unfold f3List at h
  split at h
  · rename_i l i
    obtain ⟨ds, j, h1, h2, h3⟩ := h
    obtain ⟨xs, e1, g⟩ := m l _ h1
    have st : Step (MD μ) H (MD (put μ l (.lst (ds.set j f)))) (upd H l (.lst (xs.set j z))) := .write ⟨_, h1⟩
    exact ⟨l, xs, i, j, v1, v2, e1, by rw [← g.length]; exact h2, k _ _ st (m.write ⟨_, h1⟩ ⟨_, upd_same, VDs.step st _ _ (g.set j v3)⟩) h3⟩
  · exact h.elim
end
/-! ### assignments -/
def wAsg (a : WE) (g : WG) : WS := fun DD ρ μ => a ρ μ fun d μ1 => g d ρ μ1 fun ρ2 μ2 => DD.nx ρ2 μ2
section
variable {X : Cx} {e tg : Expr} {w : WE} {g : WG} {pos : Pos}
theorem js_asg (he : JE B X e w) (hg : JG B X tg g) (hs : swapsWithSole [tg] e pos.line X.env = pure false := by rfl) (hw : swappedStores [tg] e X.env = pure none := by rfl) (h1 : (assignEach [tg] X.env).map (·.2) = [assign tg X.env] := by rfl) : JS B X (.Assign [tg] e pos) (wAsg w g) := PS.of (ps_asg he hg hs hw h1) fun E σ H ⟨ρ, μ, DD, rs, m, h, l⟩ =>
  up_mk rs m h fun v H1 d μ1 s1 m1 v1 h1 => ⟨d, ρ, μ1, _, v1, rs.step s1, m1, h1, fun σ' H' ρ' μ' s2 r2 m2 q => l.nx σ' H' ρ' μ' (s1.trans s2) r2 m2 q⟩
/-- a, b = x, y -/
def wPar (i j : Nat) (a : WA) : WS := fun DD ρ μ => a ρ μ fun ds μ1 => ∃ d e, ds = [d, e] ∧ DD.nx ((ρ.set i (some d)).set j (some e)) μ1
end
/-! ### what is forgotten -/
/-- fewer names, fewer addresses -/
inductive Fg : Rho → Rho → Prop
  | nil : Fg [] []
  | keep {x : Option D} {a b : Rho} : Fg a b → Fg (x :: a) (x :: b)
  | drop {x : Option D} {a b : Rho} : Fg a b → Fg (x :: a) (none :: b)
theorem Fg.refl : ∀ ρ : Rho, Fg ρ ρ
  | [] => .nil
  | _ :: ρ => .keep (Fg.refl ρ)
theorem Fg.length : ∀ {a b : Rho}, Fg a b → a.length = b.length
  | _, _, .nil => rfl
  | _, _, .keep h => congrArg (· + 1) h.length
  | _, _, .drop h => congrArg (· + 1) h.length
theorem Fg.at : ∀ {a b : Rho} {i : Nat} {d : D}, Fg a b → b[i]? = some (some d) → a[i]? = some (some d)
  | _, _, _, _, .nil, e => e
  | _, _, 0, _, .keep h, e => e
  | _, _, 0, _, .drop h, e => by simp at e
  | _, _, i + 1, _, .keep h, e => by
    rw [List.getElem?_cons_succ] at *
    exact h.at e
  | _, _, i + 1, _, .drop h, e => by
    rw [List.getElem?_cons_succ] at *
    exact h.at e
def Less (μ μ' : Mu) : Prop := ∀ a, μ' a = none ∨ μ' a = μ a
theorem Less.refl (μ : Mu) : Less μ μ := fun _ => .inr rfl
theorem Less.put {μ0 μ : Mu} {l : Addr} {o : O} (h : Less μ μ0) (n : μ0 l = none) : Less (put μ l o) μ0 := fun a => by
  by_cases e : a = l
  · subst e
    exact .inl n
  · rw [put_ne e]
    exact h a
theorem Less.trans {a b c : Mu} (h : Less a b) (g : Less b c) : Less a c := fun x => by
  rcases g x with e | e
  · exact .inl e
  · rw [e]
    exact h x
theorem Less.step {μ μ' : Mu} (h : Less μ μ') {H : Hp} : Step (MD μ) H (MD μ') H := ⟨fun _ _ _ e => e, fun a ⟨o, e⟩ => by
  rcases h a with q | q
  · rw [q] at e; cases e
  · exact .inl ⟨o, q ▸ e⟩⟩
theorem Less.mh {μ μ' : Mu} {H : Hp} (h : Less μ μ') (m : MH μ H) : MH μ' H := fun a o e => by
  rcases h a with q | q
  · rw [q] at e; cases e
  · exact (m a o (q ▸ e)).step h.step rfl
/-- a state may be told with less -/
def wk (P : Rho → Mu → Prop) (ρ : Rho) (μ : Mu) : Prop := ∃ ρ' μ', Fg ρ ρ' ∧ Less μ μ' ∧ P ρ' μ'
theorem wk.same {P : Rho → Mu → Prop} {ρ : Rho} {μ : Mu} (h : P ρ μ) : wk P ρ μ := ⟨ρ, μ, .refl _, .refl _, h⟩
theorem RS.fg {M : Ms} {H : Hp} {ρ ρ' : Rho} {σ : L2.St} (f : Fg ρ ρ') (r : RS B M H ρ σ) : RS B M H ρ' σ := ⟨f.length.symm.trans r.1, fun i d e => r.2.1 i d (f.at e), r.2.2⟩
/-! ### what is walked -/
abbrev WI := Rho → Mu → (List D → (Mu → Prop) → Mu → Prop) → Prop
/-- J gives the items ds one by one, as long as kp stands -/
def Gives (J : It) (μ1 : Mu) (H1 : Hp) (ds : List D) (kp : Mu → Prop) : Prop := Walk J ds.length (fun H => ∃ μ, Step (MD μ1) H1 (MD μ) H ∧ MH μ H ∧ kp μ)
  (fun i H x H' => ∀ μ, Step (MD μ1) H1 (MD μ) H → MH μ H → kp μ → ∃ d, ds[i]? = some d ∧ Step (MD μ) H (MD μ) H' ∧ MH μ H' ∧ VD (MD μ) H' d x)
def upI (B : Bs) (w : WI) : TI := fun σ H R => ∃ ρ μ QD, RS B (MD μ) H ρ σ ∧ MH μ H ∧ w ρ μ QD ∧ ∀ J H' ds kp μ', Step (MD μ) H (MD μ') H' → MH μ' H' → Gives J μ' H' ds kp → QD ds kp μ' → R J H'
abbrev JI (B : Bs) (X : Cx) (tg e : Expr) (w : WI) : Prop := PI X tg e (upI B w)
theorem PI.of {X : Cx} {tg e : Expr} {t t' : TI} (h : PI X tg e t) (g : ∀ σ H R, t' σ H R → t σ H R) : PI X tg e t' := ⟨fun pins s σ H R I q => h.run pins s σ H R I (g σ H R q)⟩
def wIt (a : WE) : WI := fun ρ μ Q => a ρ μ fun d μ1 => ∃ ds, Lr μ1 d ds ∧ Q ds (fun μ => Lr μ d ds) μ1
def wItT (a : WE) : WI := fun ρ μ Q => a ρ μ fun d μ1 => ∃ ds, d = .tup ds ∧ Q ds (fun _ => True) μ1
def wRng1 (a : WA) : WI := fun ρ μ Q => a ρ μ fun vs μ1 => ∃ j, vs = [.int j] ∧ -(2 ^ 62) ≤ j ∧ j < 2 ^ 62 ∧ Q ((List.range j.toNat).map fun i : Nat => .int i) (fun _ => True) μ1
section
variable {X : Cx} {tg e : Expr} {w : WE}
theorem ji_list (h : JE B X e w) : JI B X tg e (wIt w) := PI.of (pi_list h) fun σ H R ⟨ρ, μ, QD, rs, m, h, k⟩ => up_mk rs m h fun v H1 d μ1 s1 m1 v1 ⟨ds, hl, h1⟩ => by
  obtain ⟨a, xs, ev, r, g⟩ := hl.to m1 v1
  have ha : ∀ μ H2, Step (MD μ1) H1 (MD μ) H2 → MH μ H2 → Lr μ d ds → ∃ ys, SqL X.K H2 a ys ∧ VDs (MD μ) H2 ds ys := fun μ H2 st mh kp => by
    obtain ⟨b, ys, eb, rb, gb⟩ := kp.to mh (VD.step st _ _ v1)
    rw [ev] at eb
    cases eb
    exact ⟨ys, .inl rb, gb⟩
  refine ⟨a, ev, ⟨xs, .inl r⟩, k _ H1 ds (fun μ => Lr μ d ds) μ1 s1 m1 ⟨fun i H2 hi ⟨μ, st, mh, kp⟩ => ?_, fun H2 ⟨μ, st, mh, kp⟩ => ?_, fun i H2 x H' hi _ ⟨e1, e2⟩ μ st mh kp => ?_⟩ h1⟩
  · obtain ⟨ys, q, gb⟩ := ha μ H2 st mh kp
    obtain ⟨y, hy, _⟩ := gb.get (List.getElem?_eq_getElem hi)
    exact ⟨ys, y, q, hy⟩
  · obtain ⟨ys, q, gb⟩ := ha μ H2 st mh kp
    exact ⟨ys, q, Nat.le_of_eq gb.length.symm⟩
  · obtain ⟨ys, q, gb⟩ := ha μ H2 st mh kp
    subst e1
    obtain ⟨d', hd, hv⟩ := gb.of_get (e2 ys q)
    exact ⟨d', hd, .refl, mh, hv⟩
theorem ji_range1 {a : Expr} {wa : WA} {p pos : Pos} (hm : X.mg "range" = none) (ha : JA B X [a] wa) (hg : Gl X "range" := by rfl) (hs : starEach [a] X.env = [(false, eval a X.env)] := by rfl) : JI B X tg (.Call (.Name "range" p) [a] [] pos) (wRng1 wa) := PI.of (pi_range1 hg hm ha hs) fun σ H R ⟨ρ, μ, QD, rs, m, h, k⟩ =>
  ⟨ρ, μ, _, rs, m, h, fun vs H1 ds μ1 s1 m1 v1 ⟨j, ej, h1, h2, h3⟩ => by
    subst ej
    obtain ⟨v, ws, rfl, r1, e2⟩ := v1
    rw [show v = V.int j from r1, show ws = [] from e2]
    refine ⟨j, rfl, h1, h2, k _ H1 _ _ μ1 s1 m1 ⟨fun i H2 hi _ => ?_, fun H2 _ => ?_, fun i H2 x H' hi _ ⟨q1, q2⟩ μ st mh kp => ?_⟩ h3⟩
    · have hi' : i < j.toNat := by simpa using hi
      exact hi'
    · show j.toNat ≤ _
      simp
    · subst q1 q2
      have hi' : i < j.toNat := by simpa using hi
      refine ⟨.int i, by simp [hi'], .refl, mh, ?_⟩
      show V.int (0 + (i : Int)) = V.int i
      rw [Int.zero_add]⟩
end
/-! ### for -/
def wFor (wi : WI) (g : WG) (b : WS) : WS := fun DD ρ μ => wi ρ μ fun ds kp μ1 => ∃ P : Nat → Rho → Mu → Prop, wk (P 0) ρ μ1 ∧ (∀ i ρ μ, i ≤ ds.length → P i ρ μ → kp μ) ∧
  (∀ i d ρ μ, ds[i]? = some d → P i ρ μ → g d ρ μ fun ρ2 μ2 => b { nx := wk (P (i + 1)), rt := DD.rt, bk := DD.nx, ct := wk (P (i + 1)) } ρ2 μ2) ∧ (∀ ρ μ, P ds.length ρ μ → DD.nx ρ μ)
section
variable {X : Cx} {tg iter : Expr} {body : List Stmt} {wi : WI} {g : WG} {b : WS} {pos : Pos}
theorem js_for (hp : PassesOwn (model X.prog X.w) X.A X.env X.xe) (hi : JI B X tg iter wi) (hg : JG B X tg g) (hb : JSs B X body b) (hc : X.calm = true := by rfl) (hs : ∀ x, foldedSetIterable iter X.env x = pure x := by intro _; rfl) : JS B X (.For tg iter body [] pos) (wFor wi g b) :=
  PS.of (ps_for hp hc hi hg hb hs) fun E σ H ⟨ρ, μ, DD, rs, m, h, l⟩ => ⟨ρ, μ, _, rs, m, h, fun J H1 ds kp μ1 s1 m1 gv ⟨P, p0, pk, ps, pd⟩ => by
    have l1 := l.step s1
    refine for_it gv (fun i σ H2 => ∃ ρ μ, Step (MD μ1) H1 (MD μ) H2 ∧ RS B (MD μ) H2 ρ σ ∧ MH μ H2 ∧ P i ρ μ) ?_ ?_ ?_ ?_
    · obtain ⟨ρ', μ', f, le, p⟩ := p0
      exact ⟨ρ', μ', le.step, ((rs.step s1).step le.step).fg f, le.mh m1, p⟩
    · rintro i σ H2 hi ⟨ρ, μ, st, rs, mh, p⟩
      exact ⟨μ, st, mh, pk i ρ μ hi p⟩
    · rintro i x σ H2 H3 hi ⟨ρ, μ, st, rs, mh, p⟩ y
      obtain ⟨d, hd, st2, mh2, vd⟩ := y μ st mh (pk i ρ μ (Nat.le_of_lt hi) p)
      have st3 := st.trans st2
      refine ⟨d, ρ, μ, _, vd, rs.step st2, mh2, ps i d ρ μ hd p, fun σ4 H4 ρ4 μ4 s4 r4 m4 q4 => ⟨ρ4, μ4, _, r4, m4, q4, ?_⟩⟩
      have l4 := l1.step (st3.trans s4)
      have back : ∀ σ' H' ρ' μ', Step (MD μ4) H4 (MD μ') H' → RS B (MD μ') H' ρ' σ' → MH μ' H' → wk (P (i + 1)) ρ' μ' → ∃ ρ μ, Step (MD μ1) H1 (MD μ) H' ∧ RS B (MD μ) H' ρ σ' ∧ MH μ H' ∧ P (i + 1) ρ μ := fun σ' H' ρ' μ' s r mm ⟨ρ5, μ5, f, le, p5⟩ =>
        ⟨ρ5, μ5, ((st3.trans s4).trans s).trans le.step, (r.step le.step).fg f, le.mh mm, p5⟩
      exact ⟨back, l4.rt, l4.nx, back⟩
    · rintro σ H2 ⟨ρ, μ, st, rs, mh, p⟩
      exact l1.nx σ H2 ρ μ st rs mh (pd ρ μ p)⟩
end
/-! ### while -/
def wWhile (t : WT) (b : WS) : WS := fun DD ρ μ => ∃ P : Nat → Rho → Mu → Prop, (∃ n, wk (P n) ρ μ) ∧ ∀ n ρ μ, P n ρ μ → t ρ μ fun c μ1 => Br c (b { nx := fun ρ2 μ2 => ∃ k, k < n ∧ wk (P k) ρ2 μ2, rt := DD.rt, bk := DD.nx, ct := fun ρ2 μ2 => ∃ k, k < n ∧ wk (P k) ρ2 μ2 } ρ μ1) (DD.nx ρ μ1)
theorem js_while {X : Cx} {c : Expr} {body : List Stmt} {t : WT} {b : WS} {pos : Pos} (hp : PassesOwn (model X.prog X.w) X.A X.env X.xe) (hc : JT B X c t) (hb : JSs B X body b) : JS B X (.While c body [] pos) (wWhile t b) :=
  PS.of (ps_while hp hc hb) fun E σ H ⟨ρ, μ, DD, rs, m, ⟨P, ⟨n, ρ0, μ0, f, le, p0⟩, ps⟩, l⟩ => by
    refine ⟨fun n σ H2 => ∃ ρ' μ', Step (MD μ) H (MD μ') H2 ∧ RS B (MD μ') H2 ρ' σ ∧ MH μ' H2 ∧ P n ρ' μ', ⟨n, ρ0, μ0, le.step, (rs.step le.step).fg f, le.mh m, p0⟩, ?_⟩
    rintro k σ2 H2 ⟨ρ2, μ2, st, rs2, mh, p⟩
    refine upT_mk rs2 mh (ps k ρ2 μ2 p) fun c H3 μ3 s3 m3 h3 => (h3.mono (fun q => ?_) fun q => ?_).ite
    · refine ⟨fun σ' H' => ∃ j, j < k ∧ ∃ ρ' μ', Step (MD μ) H (MD μ') H' ∧ RS B (MD μ') H' ρ' σ' ∧ MH μ' H' ∧ P j ρ' μ', fun σ' H' ⟨j, hj, q⟩ => ⟨j, hj, q⟩, ρ2, μ3, _, rs2.step s3, m3, q, ?_⟩
      have l4 := l.step (st.trans s3)
      have back : ∀ σ' H' ρ' μ', Step (MD μ3) H3 (MD μ') H' → RS B (MD μ') H' ρ' σ' → MH μ' H' → (∃ j, j < k ∧ wk (P j) ρ' μ') → ∃ j, j < k ∧ ∃ ρ' μ', Step (MD μ) H (MD μ') H' ∧ RS B (MD μ') H' ρ' σ' ∧ MH μ' H' ∧ P j ρ' μ' := fun σ' H' ρ' μ' s r mm ⟨j, hj, ρ5, μ5, f, le, p5⟩ =>
        ⟨j, hj, ρ5, μ5, ((st.trans s3).trans s).trans le.step, (r.step le.step).fg f, le.mh mm, p5⟩
      exact ⟨back, l4.rt, l4.nx, back⟩
    · exact l.nx σ2 H3 ρ2 μ3 (st.trans s3) (rs2.step s3) m3 q
end Dl
namespace Dl
open PySem PySem.Spec PyProof.Rows L2
variable {B : Bs}
/-! ### what a def promises, over data -/
abbrev XD := Value → List (Str × D) → Mu → Prop
abbrev SpD := List D → Mu → DQ → XD → Prop
/-- an exception's own fields -/
def Flds (M : Ms) (H : Hp) (d : Option Addr) (fs : List (Str × D)) : Prop := match d with
  | none => fs = []
  | some dd => ∃ gs, H dd = some (.xd gs) ∧ KD M H fs gs
def lftX (μ : Mu) (H : Hp) (E : XD) : XK := fun cls d H' => ∃ fs μ', Step (MD μ) H (MD μ') H' ∧ MH μ' H' ∧ Flds (MD μ') H' d fs ∧ E cls fs μ'
def toSp (sp : SpD) : Sp := fun vs H Q E => ∃ ds μ QD ED, VDs (MD μ) H ds vs ∧ MH μ H ∧ sp ds μ QD ED ∧ (∀ v H', lft μ H QD v H' → Q v H') ∧ ∀ cls d H', lftX μ H ED cls d H' → E cls d H'
/-- a wish about exceptions, with the names -/
abbrev WXD := Value → List (Str × D) → Rho → Mu → Prop
def upX (B : Bs) (W : WXD) : WX := fun cls d σ H => ∃ fs ρ μ, Flds (MD μ) H d fs ∧ RS B (MD μ) H ρ σ ∧ MH μ H ∧ W cls fs ρ μ
/-- at f stands a def that keeps the promise, where nothing is being shown (repr) around it -/
structure FnG (P : Program) (w : World) (K : Frg) (mg : Str → Option Value) (base : Heap) (k : Nat) (f : Addr) (fd : FuncData) (ps : List Str) (sp : SpD) : Prop where
  len : ∀ ds μ Q E, sp ds μ Q E → ds.length = ps.length
  run : ∀ (A : Around) (outer : List Env) (s : Shared) (H : Hp) (args : Args) (us : List Value) (vs : List V) (Q : VK) (E : XK), A.guards = some [] → Room k A → Env0 P w K mg base A outer s H → BindsTo s fd args (ps.zip us) → Vals vs us → toSp sp vs H Q E →
    codeAny (model P w) A (.call (.ref f) args) (CR (L2.CX P w) outer P w H s Q E) s
theorem FnG.mono {P : Program} {w : World} {K : Frg} {mg : Str → Option Value} {base : Heap} {j k : Nat} {f : Addr} {fd : FuncData} {ps : List Str} {sp : SpD} (F : FnG P w K mg base j f fd ps sp) (h : j ≤ k) : FnG P w K mg base k f fd ps sp :=
  ⟨F.len, fun A o s H a us vs Q E g r => F.run A o s H a us vs Q E g (r.mono h)⟩
theorem toSp_len {sp : SpD} {n : Nat} (h : ∀ ds μ Q E, sp ds μ Q E → ds.length = n) {vs : List V} {H : Hp} {Q : VK} {E : XK} (q : toSp sp vs H Q E) : vs.length = n := by
  obtain ⟨ds, μ, QD, ED, hv, _, hs, _⟩ := q
  rw [← hv.length]
  exact h _ _ _ _ hs
/-- a result may be told with less: lists that change no more -/
def Wkn (μ : Mu) (d : D) (μ' : Mu) (d' : D) : Prop := ∀ H, MH μ H → (Step (MD μ) H (MD μ') H ∧ MH μ' H) ∧ ∀ v, VD (MD μ) H d v → VD (MD μ') H d' v
def wkR (Q : DQ) : DQ := fun d μ => ∃ d' μ', Wkn μ d μ' d' ∧ Q d' μ'
theorem Wkn.less {μ μ' : Mu} {d : D} (h : Less μ μ') : Wkn μ d μ' d := fun _ m => ⟨⟨h.step, h.mh m⟩, fun _ v => VD.step h.step _ _ v⟩
theorem Wkn.trans {μ μ1 μ2 : Mu} {d d1 d2 : D} (h : Wkn μ d μ1 d1) (g : Wkn μ1 d1 μ2 d2) : Wkn μ d μ2 d2 := fun H m =>
  have a := h H m
  have b := g H a.1.2
  ⟨⟨a.1.1.trans b.1.1, b.1.2⟩, fun v hv => b.2 v (a.2 v hv)⟩
theorem wkR.same {Q : DQ} {d : D} {μ : Mu} (h : Q d μ) : wkR Q d μ := ⟨d, μ, .less (.refl _), h⟩
theorem wkR.less {Q : DQ} {d : D} {μ μ' : Mu} (l : Less μ μ') (h : Q d μ') : wkR Q d μ := ⟨d, μ', .less l, h⟩
theorem wkR.wk {Q : DQ} {d d' : D} {μ μ' : Mu} (l : Wkn μ d μ' d') (h : wkR Q d' μ') : wkR Q d μ := let ⟨e, ν, w, q⟩ := h; ⟨e, ν, l.trans w, q⟩
/-- a list that changes no more -/
theorem Wkn.froze {μ μ' : Mu} {l : Addr} {ds : List D} (h : Less μ μ') (e : μ l = some (.lst ds)) (n : μ' l = none) : Wkn μ (.at l) μ' (.lst ds) := fun H m => ⟨⟨h.step, h.mh m⟩, fun v hv => by
  obtain ⟨xs, h1, h2⟩ := m l _ e
  exact ⟨l, xs, hv, ⟨fun ⟨o, q⟩ => (by rw [n] at q; cases q), h1⟩, VDs.step h.step _ _ h2⟩⟩
theorem wkR.froze {Q : DQ} {μ μ' : Mu} {l : Addr} {ds : List D} (h : Less μ μ') (e : μ l = some (.lst ds)) (n : μ' l = none) (q : Q (.lst ds) μ') : wkR Q (.at l) μ := ⟨_, _, .froze h e n, q⟩
/-- a list of two whole numbers is a pot from here -/
theorem Wkn.pot {μ : Mu} {d : D} {l : Addr} {x y : Int} (e : μ l = some (.lst [.int x, .int y])) (ok : PotOk x y) : Wkn μ d (put μ l .pot) d := fun H m => by
  have st : Step (MD μ) H (MD (put μ l .pot)) H := ⟨fun _ _ _ e => e, fun a ⟨z, q⟩ => by
    by_cases c : a = l
    · subst c
      exact .inl ⟨_, e⟩
    · rw [put_ne c] at q
      exact .inl ⟨_, q⟩⟩
  refine ⟨⟨st, fun a z q => ?_⟩, fun v hv => VD.step st _ _ hv⟩
  by_cases c : a = l
  · subst c
    rw [put_same] at q
    cases q
    obtain ⟨xs, h1, v, vs, rfl, rx, v2, vs2, rfl, ry, e0⟩ := m a _ e
    rw [show v = V.int x from rx, show v2 = V.int y from ry, show vs2 = [] from e0] at h1
    exact ⟨x, y, h1, ok⟩
  · rw [put_ne c] at q
    exact (m a z q).step st rfl
/-- the names at a def's entry -/
def startD (N : List Str) (ds : List D) : Rho := ds.map some ++ List.replicate (N.length - ds.length) none
theorem start_rs {M : Ms} {H : Hp} {N : List Str} {ds : List D} {vs : List V} (h : VDs M H ds vs) : RS (M, H) M H (startD N ds) (L2.start N vs) := by
  have hl := h.length
  refine ⟨by simp [startD, L2.start, hl], fun i d e => ?_, .refl⟩
  unfold startD at e
  unfold L2.start
  by_cases hi : i < ds.length
  · rw [List.getElem?_append_left (by simpa using hi), List.getElem?_map] at e
    rw [List.getElem?_append_left (by rw [List.length_map]; omega), List.getElem?_map]
    cases q : ds[i]? with
    | none => rw [q] at e; cases e
    | some x =>
      rw [q] at e
      cases e
      obtain ⟨v, h1, h2⟩ := h.get q
      exact ⟨v, by rw [h1]; rfl, h2⟩
  · rw [List.getElem?_append_right (by simpa using hi)] at e
    rw [List.getElem?_replicate] at e
    split at e <;> cases e
/-- THE RULE for a def of the text, over data -/
theorem fnD {P : Program} {w : World} {K : Frg} {mg : Str → Option Value} {base : Heap} {k : Nat} {f : Addr} {x qual : Str} {st : Stmt} {fd : FuncData} {N ps : List Str} {sp : SpD} (F : ∃ (oc : Value) (od : Option Addr) (dV kV doc pm : Value) (an : Option Addr) (cdv ct : Value) (osl : Array (Option Value)),
    fd = PySem.W.fnOf x qual (defArgs st) (defBody st) (defScope st) dV kV doc pm an cdv ct ∧ K.lookup f = some ⟨oc, od, .func fd, osl⟩ ∧ PySem.W.codeIn K cdv qual = true)
    (S : FnScope N ps (defScope st)) (len : ∀ ds μ Q E, sp ds μ Q E → ds.length = ps.length)
    (hbody : ∀ (cdv : Value) (A : Around) (outer : List Env) (s : Shared) (H : Hp) (EX : XK) (ds : List D) (μ : Mu) (Q : DQ) (E : XD), A.guards = some [] → Room k (A.deeper (envOfC qual (defScope st) s.heap.objs.size f cdv)) →
      Takes (cxOf (L2.CX P w) P w K mg base N qual (defScope st) f cdv A outer s H EX) (upX (MD μ, H) fun cls fs _ μ' => E cls fs μ') →
      PassesOwn (model P w) (A.deeper (envOfC qual (defScope st) s.heap.objs.size f cdv)) (envOfC qual (defScope st) s.heap.objs.size f cdv) (cxOf (L2.CX P w) P w K mg base N qual (defScope st) f cdv A outer s H EX).xe → sp ds μ Q E →
      ∃ b, JSs (MD μ, H) (cxOf (L2.CX P w) P w K mg base N qual (defScope st) f cdv A outer s H EX) (defBody st) b ∧ b { nx := fun _ μ' => wkR Q .non μ', rt := wkR Q } (startD N ds) μ) : FnG P w K mg base (k + 1) f fd ps sp := by
  obtain ⟨oc, od, dV, kV, doc, pm, an, cdv, ct, osl, rfl, lk, hcd⟩ := F
  refine ⟨len, fun A outer s H args us vs Q E hg hr e0 hb r hsp => ?_⟩
  have hl := toSp_len len hsp
  have KX : K.In s.heap := e0.mod.kin.keeps fun b o e => (e0.bs b o e).1
  have lim : s.heap.NoLimit := e0.mod.nolimit.keeps fun b o e => (e0.bs b o e).1
  have hkind : ∀ y ∈ ps.zip us, (defScope st).names.lookup y.1 = some .local ∨ ((defScope st).names.lookup y.1 = some .cell ∧ ((cellsFrom (s.heap.objs.size + 1) (defScope st).names []).lookup y.1).isSome = true) := by
    rintro ⟨n, v⟩ hy
    cases S.par n (List.of_mem_zip hy).1 with
    | inl q => exact .inl q
    | inr q => exact .inr ⟨q, PySem.W.cellsFrom_some _ _ _ (.inl q)⟩
  refine codeAny_call_function hr.depth (KX _ _ lk) rfl S.co S.gen rfl (PySem.W.codeRec_of KX hcd) (hb _ _ _ _ (wpAny_newFunctionEnv_cells S.kind hkind fun env he s1 x => ?_))
  subst he
  refine ⟨lim.keeps x.toInCall.keep, codeAny_func ?_⟩
  obtain ⟨ds, μ, QD, ED, hv, mh, hs, kQ, kE⟩ := hsp
  have tk : Takes (cxOf (L2.CX P w) P w K mg base N qual (defScope st) f cdv A outer s H E) (upX (MD μ, H) fun cls fs _ μ' => ED cls fs μ') :=
    Takes.imp (takes_of rfl rfl rfl rfl) fun c d σ H' ⟨fs, ρ, μ', h1, h2, h3, h4⟩ => kE c d H' ⟨fs, μ', h2.2.2, h3, h1, h4⟩
  obtain ⟨b, hb1, hb2⟩ := hbody cdv A outer s H E ds μ QD ED hg (hr.deeper _) tk (passes_of rfl) hs
  have I : Inv (cxOf (L2.CX P w) P w K mg base N qual (defScope st) f cdv A outer s H E) [] (L2.start N vs) H s1 := inv_start S hr.hd e0 hl r x
  have le : EdLe (MD μ, H) { nx := fun _ μ' => wkR QD .non μ', rt := wkR QD } { nx := fun _ H' => Q .non H', rt := Q } μ H :=
    ⟨fun σ' H' ρ' μ' st rs m ⟨d', μ2, wk, q⟩ => kQ _ _ ⟨d', μ2, st.trans (wk _ m).1.1, (wk _ m).1.2, (wk _ m).2 _ rfl, q⟩, fun v H' d μ' st m hd ⟨d', μ2, wk, q⟩ => kQ _ _ ⟨d', μ2, st.trans (wk _ m).1.1, (wk _ m).1.2, (wk _ m).2 _ hd, q⟩, fun _ _ _ _ _ _ _ q => q.elim, fun _ _ _ _ _ _ _ q => q.elim⟩
  refine wpAny_mono (hb1.run [] s1 (L2.start N vs) H { nx := fun _ H' => Q .non H', rt := Q } I ⟨startD N ds, μ, _, start_rs hv, mh, hb2, le⟩) (fun fl s' hs' => ?_) fun _ _ z => z
  have fin : ∀ {σ' : L2.St} {H' : Hp} {v : V} {u : Value}, Inv (cxOf (L2.CX P w) P w K mg base N qual (defScope st) f cdv A outer s H E) [] σ' H' s' → RelV v u → Q v H' → CE outer P w H s Q u s' := fun {σ' H' v u} J rv q => ⟨v, H', J.os, J.bare, J.base, J.hok, rv, q⟩
  cases fl with
  | ret u => obtain ⟨v, σ', H', J, rv, q⟩ := hs'; exact fin J rv q
  | next => obtain ⟨σ', H', J, q⟩ := hs'; exact fin (v := V.non) (u := Value.none) J rfl q
  | brk => obtain ⟨_, _, _, q⟩ := hs'; exact q.elim
  | cont => obtain ⟨_, _, _, q⟩ := hs'; exact q.elim
/-! ### calls -/
/-- how arguments come to parameters: n by place, ks by name -/
structure KBd (K : Frg) (fd : FuncData) (ps : List Str) (n : Nat) (ks : List Str) (gD : List D → List D → List D) : Prop where
  to : ∀ (s : Shared) (us ws : List Value), K.In s.heap → us.length = n → ws.length = ks.length → ∃ zs, BindsTo s fd ⟨us, ks.zip ws⟩ (ps.zip zs) ∧
    ∀ (M : Ms) (H : Hp) (ds es : List D) (vs ms : List V), VDs M H ds vs → VDs M H es ms → Vals vs us → Vals ms ws → ∃ xs, Vals xs zs ∧ VDs M H (gD ds es) xs
theorem KBd.pos {K : Frg} {fd : FuncData} {ps : List Str} (n : Nat) (h : ∀ us : List Value, us.length = n → bindArgs fd ⟨us, []⟩ = pure (ps.zip us)) : KBd K fd ps n [] (fun ds _ => ds) :=
  ⟨fun s us ws _ h1 h2 => ⟨us, by
    have e : ([] : List Str).zip ws = [] := rfl
    rw [e]
    exact .of_eq (h us h1), fun M H ds es vs ms a b c d => ⟨vs, c, a⟩⟩⟩
def picked {α : Type} (l : List α) (d : α) (idx : List Nat) : List α := idx.map fun i => l.getD i d
theorem VDs.picked {M : Ms} {H : Hp} {es : List D} {ms : List V} (h : VDs M H es ms) : ∀ idx : List Nat, VDs M H (picked es .non idx) (picked ms .non idx)
  | [] => rfl
  | i :: idx => by
    refine ⟨_, _, rfl, ?_, VDs.picked h idx⟩
    show VD M H (es.getD i .non) (ms.getD i .non)
    rw [List.getD_eq_getElem?_getD, List.getD_eq_getElem?_getD]
    cases q : es[i]? with
    | some d =>
      obtain ⟨v, e, r⟩ := h.get q
      rw [e]
      exact r
    | none =>
      have e : ms[i]? = none := by
        rw [List.getElem?_eq_none_iff] at *
        rw [← h.length]
        exact q
      rw [e]
      exact rfl
theorem Vals.picked {ms : List V} {ws : List Value} (h : Vals ms ws) : ∀ idx : List Nat, Vals (picked ms .non idx) (picked ws .none idx)
  | [] => .nil
  | i :: idx => by
    refine .cons ?_ (Vals.picked h idx)
    show RelV (ms.getD i .non) (ws.getD i .none)
    rw [List.getD_eq_getElem?_getD, List.getD_eq_getElem?_getD]
    cases q : ms[i]? with
    | some d =>
      obtain ⟨v, e, r⟩ := h.get q
      rw [e]
      exact r
    | none =>
      rw [h.none_of q]
      exact rfl
/-- the keywords in any order, all given -/
theorem KBd.kw {K : Frg} {fd : FuncData} {ps ks : List Str} (n : Nat) (idx : List Nat) (h : ∀ us ws : List Value, us.length = n → ws.length = ks.length → bindArgs fd ⟨us, ks.zip ws⟩ = pure (ps.zip (us ++ picked ws .none idx))) : KBd K fd ps n ks (fun ds es => ds ++ picked es .non idx) :=
  ⟨fun s us ws _ h1 h2 => ⟨_, .of_eq (h us ws h1 h2), fun M H ds es vs ms a b c d => ⟨_, c.append (Vals.picked d idx), a.append (VDs.picked b idx)⟩⟩⟩
abbrev WCl := Rho → Mu → (List D → List D → Mu → Prop) → Prop
/-- a call's written arguments, by place and by name (ks) -/
def JCl (B : Bs) (X : Cx) (es : List Expr) (kws : List Keyword) (ks : List Str) (t : WCl) : Prop :=
  ∀ (pos : Pos) (f : Value) (first : List Value) (pins : List (Addr × Obj)) (s : Shared) (σ : L2.St) (H : Hp) (ρ : Rho) (μ : Mu) (QD : List D → List D → Mu → Prop) (R : Value → Shared → Prop), PySem.W.keepIn X.K f = true → Inv X pins σ H s → RS B (MD μ) H ρ σ → MH μ H → t ρ μ QD →
    (∀ ds es μ1 H1 vs zs us ws s1, Step (MD μ) H (MD μ1) H1 → MH μ1 H1 → VDs (MD μ1) H1 ds vs → VDs (MD μ1) H1 es zs → Vals vs us → Vals zs ws → ws.length = ks.length → Inv X pins σ H1 s1 → QD ds es μ1 → wpAny (model X.prog X.w) X.A (call f (first ++ us) (ks.zip ws)) R X.xe s1) →
    wpAny (model X.prog X.w) X.A (callWith pos f first (backTo pos (starEach es X.env)) (backToKw pos (keywordEach kws X.env))) R X.xe s
def wCl0 : WCl := fun _ μ Q => Q [] [] μ
def wClP (a : WA) : WCl := fun ρ μ Q => a ρ μ fun ds μ1 => Q ds [] μ1
def wClK (k : WA) : WCl := fun ρ μ Q => k ρ μ fun es μ1 => Q [] es μ1
def wClPK (a k : WA) : WCl := fun ρ μ Q => a ρ μ fun ds μ1 => k ρ μ1 fun es μ2 => Q ds es μ2
def upAn (B : Bs) (w : WA) (n : Nat) : TA := fun σ H Q => ∃ ρ μ QD, RS B (MD μ) H ρ σ ∧ MH μ H ∧ w ρ μ QD ∧ ∀ vs H' ds μ', Step (MD μ) H (MD μ') H' → MH μ' H' → VDs (MD μ') H' ds vs → ds.length = n → QD ds μ' → Q vs H'
abbrev JK (B : Bs) (X : Cx) (kws : List Keyword) (w : WA) : Prop := PK X kws (upAn B w kws.length)
section
variable {X : Cx} {e : Expr} {es : List Expr} {kws : List Keyword} {ks : List Str} {a k : WA}
theorem PK.of {t t' : TA} (h : PK X kws t) (g : ∀ σ H Q, t' σ H Q → t σ H Q) : PK X kws t' := ⟨fun pos pins s σ H Q I q => h.run pos pins s σ H Q I (g σ H Q q)⟩
theorem jk_nil : JK B X [] wNil := PK.of pk_nil fun σ H Q ⟨ρ, μ, QD, _, m, h, k⟩ => k [] H [] μ .refl m rfl rfl h
theorem jk_cons {nm : Option Str} {kpos : Pos} {w : WE} (ha : JE B X e w) (hr : JK B X kws a) : JK B X (⟨nm, e, kpos⟩ :: kws) (wCons w a) := PK.of (pk_cons ha hr) fun σ H Q ⟨ρ, μ, QD, rs, m, h, k⟩ =>
  up_mk rs m h fun v H1 d μ1 s1 m1 v1 h1 => ⟨ρ, μ1, _, rs.step s1, m1, h1, fun vs H2 ds μ2 s2 m2 v2 l2 h2 => k _ _ (d :: ds) μ2 (s1.trans s2) m2 ⟨v, vs, rfl, VD.step s2 _ _ v1, v2⟩ (by rw [List.length_cons, List.length_cons, l2]) h2⟩
theorem jc_0 : JCl B X [] [] [] wCl0 := fun pos f first pins s σ H ρ μ QD R hk I rs m h q => PySem.W.callWith_K0 I.kIn hk (q [] [] μ H [] [] [] [] s .refl m rfl rfl .nil .nil rfl I h)
theorem jc_p (ha : JA B X (e :: es) a) (he : starEach (e :: es) X.env = (false, eval e X.env) :: starEach es X.env := by rfl) (hpl : ∀ pos, (backTo pos (starEach es X.env)).any (·.1) = false := by intro _; rfl) : JCl B X (e :: es) [] [] (wClP a) := fun pos f first pins s σ H ρ μ QD R hk I rs m h q =>
  PySem.W.callWith_K (h₀ := X.base) I.ok.mod.kin hk (thn (ha.run pos pins s σ H (fun vs H1 => ∃ ds μ1, Step (MD μ) H (MD μ1) H1 ∧ MH μ1 H1 ∧ VDs (MD μ1) H1 ds vs ∧ QD ds [] μ1) I ⟨ρ, μ, _, rs, m, h, fun vs H1 ds μ1 s1 m1 v1 h1 => ⟨ds, μ1, s1, m1, v1, h1⟩⟩) fun us s1 ⟨vs, H1, I1, r, ds, μ1, s2, m2, v2, q2⟩ =>
    ⟨I1.kIn, q ds [] μ1 H1 vs [] us [] s1 s2 m2 v2 rfl r .nil rfl I1 q2⟩) he (hpl pos)
theorem jc_k (hkw : JK B X kws k) (hall : ∀ pos, (backToKw pos (keywordEach kws X.env)).all (·.1.isSome) = true := by intro _; rfl) (hks : ∀ pos, (backToKw pos (keywordEach kws X.env)).filterMap (·.1) = ks := by intro _; rfl)
    (hpl : ∀ pos, ((backTo pos (starEach [] X.env)).any (·.1) || (backToKw pos (keywordEach kws X.env)).any (·.1.isNone)) = false := by intro _; rfl) (hl : kws.length = ks.length := by rfl) : JCl B X [] kws ks (wClK k) := fun pos f first pins s σ H ρ μ QD R hk I rs m h q =>
  PySem.W.callWith_KW0 (h₀ := X.base) I.ok.mod.kin hk (hall pos) (thn (hkw.run pos pins s σ H (fun vs H1 => ∃ ds μ1, Step (MD μ) H (MD μ1) H1 ∧ MH μ1 H1 ∧ VDs (MD μ1) H1 ds vs ∧ ds.length = kws.length ∧ QD [] ds μ1) I ⟨ρ, μ, _, rs, m, h, fun vs H1 ds μ1 s1 m1 v1 l1 h1 => ⟨ds, μ1, s1, m1, v1, l1, h1⟩⟩) fun us s1 ⟨vs, H1, I1, r, ds, μ1, s2, m2, v2, l2, q2⟩ => by
    refine ⟨I1.kIn, ?_⟩
    rw [hks pos]
    exact q [] ds μ1 H1 [] vs [] us s1 s2 m2 rfl v2 .nil r (by rw [← r.length, ← v2.length, l2, hl]) I1 q2) (hpl pos)
end
section
variable {X : Cx} {k : Nat} {f C : Addr} {fd : FuncData} {ps ks : List Str} {n : Nat} {sp : SpD} {gD : List D → List D → List D} {W : WXD} {x m : Str} {p pos apos : Pos} {o : Expr} {es : List Expr} {kws : List Keyword} {t : WCl} {wo : WE}
/-- the callee runs -/
theorem run_D {pins : List (Addr × Obj)} {σ : L2.St} {H : Hp} {s : Shared} {ρ : Rho} {μ : Mu} {Q : DQ} {us ws : List Value} {vs zs : List V} {ds es : List D} {R : VK} (F : FnG X.prog X.w X.K X.mg X.base k f fd ps sp) (hr : Room k X.A) (hg : X.A.guards = some []) (hb : KBd X.K fd ps n ks gD) (tk : Takes X (upX B W))
    (I : Inv X pins σ H s) (rs : RS B (MD μ) H ρ σ) (mh : MH μ H) (v1 : VDs (MD μ) H ds vs) (v2 : VDs (MD μ) H es zs) (r1 : Vals vs us) (r2 : Vals zs ws) (l1 : us.length = n) (l2 : ws.length = ks.length)
    (h : sp (gD ds es) μ Q fun cls fs μ' => W cls fs ρ μ') (hR : ∀ v H', lft μ H Q v H' → R v H') : wpAny (model X.prog X.w) X.A (call (.ref f) us (ks.zip ws)) (EP X pins σ R) X.xe s := by
  obtain ⟨qs, hbd, hrel⟩ := hb.to s us ws I.kIn l1 l2
  obtain ⟨xs, rx, vx⟩ := hrel _ _ ds es vs zs v1 v2 r1 r2
  refine wpAny_call (codeAny_mono (F.run X.A X.stack s H ⟨us, ks.zip ws⟩ qs xs R (fun cls d H' => upX B W cls d σ H') hg hr I.env0 hbd rx ⟨_, μ, Q, _, vx, mh, h, hR, fun cls d H' ⟨fs, μ', s1, m1, f1, w1⟩ => ⟨fs, ρ, μ', f1, rs.step s1, m1, w1⟩⟩) fun r s' hq => ?_)
  cases r with
  | error e => exact tk e s' (XE.of_call I (fun cls d H' z => z) hq)
  | ok fl =>
    cases fl with
    | ret u => exact I.after hq
    | next => exact hq.elim
    | brk => exact hq.elim
    | cont => exact hq.elim
def wCall (n : Nat) (sp : SpD) (gD : List D → List D → List D) (W : WXD) (t : WCl) : WE := fun ρ μ Q => t ρ μ fun ds es μ1 => ds.length = n ∧ sp (gD ds es) μ1 Q fun cls fs μ' => W cls fs ρ μ'
theorem je_call (F : FnG X.prog X.w X.K X.mg X.base k f fd ps sp) (hr : Room k X.A) (hg : X.A.guards = some []) (tk : Takes X (upX B W)) (hm : X.mg x = some (.ref f)) (hk : PySem.W.keepIn X.K (.ref f) = true) (hb : KBd X.K fd ps n ks gD) (ha : JCl B X es kws ks t)
    (hgl : Gl X x := by rfl) (hdb : (x == ("__debug__" : Str)) = false := by decide) : JE B X (.Call (.Name x p) es kws pos) (wCall n sp gD W t) := ⟨fun pins s σ H Q I ⟨ρ, μ, QD, rs, mh, h, kk⟩ => by
  refine wpAny_Call_Name_kw (ld_glob I hgl hm ?_ hdb)
  refine ha pos _ [] pins s σ H ρ μ _ _ hk I rs mh h fun ds es μ1 H1 vs zs us ws s1 st m1 v1 v2 r1 r2 l2 I1 q => ?_
  exact run_D F hr hg hb tk I1 (rs.step st) m1 v1 v2 r1 r2 (show us.length = n by rw [← r1.length, ← v1.length]; exact q.1) l2 q.2 fun v H' z => kk v H' (z.trans st)⟩
/-- o.m(..), o an instance of the class at C -/
def wMeth (C : Addr) (m : Str) (n : Nat) (sp : SpD) (gD : List D → List D → List D) (W : WXD) (wo : WE) (t : WCl) : WE := fun ρ μ Q => wo ρ μ fun d μ0 => ∃ a fs, d = .at a ∧ μ0 a = some (.ins C fs) ∧ fs.lookup m = none ∧ t ρ μ0 fun ds es μ1 => ds.length + 1 = n ∧ sp (gD (.at a :: ds) es) μ1 Q fun cls fs μ' => W cls fs ρ μ'
theorem KD.lookup {M : Ms} {H : Hp} {m : Str} : ∀ {fs : List (Str × D)} {gs : List (Str × V)}, KD M H fs gs → (match fs.lookup m with | none => gs.lookup m = none | some d => ∃ v, gs.lookup m = some v ∧ VD M H d v)
  | _, _, .nil => rfl
  | (a, d) :: fs, (b, v) :: gs, .cons r t => by
    obtain ⟨e, hv⟩ := r
    have e' : a = b := e
    subst e'
    rw [List.lookup_cons, List.lookup_cons]
    cases q : (m == a) with
    | true => exact ⟨v, rfl, hv⟩
    | false => exact KD.lookup t
theorem KD.lookup_none {M : Ms} {H : Hp} {m : Str} {fs : List (Str × D)} {gs : List (Str × V)} (h : KD M H fs gs) (e : fs.lookup m = none) : gs.lookup m = none := by
  have q := KD.lookup (m := m) h
  rw [e] at q
  exact q
theorem KD.lookup_some {M : Ms} {H : Hp} {m : Str} {fs : List (Str × D)} {gs : List (Str × V)} {d : D} (h : KD M H fs gs) (e : fs.lookup m = some d) : ∃ v, gs.lookup m = some v ∧ VD M H d v := by
  have q := KD.lookup (m := m) h
  rw [e] at q
  exact q
theorem je_meth {pl : Sem Bool} (ho : JE B X o wo) (c : Cls X.K C) (hm : Meth X.K C m f) (F : FnG X.prog X.w X.K X.mg X.base k f fd ps sp) (hr : Room k X.A) (hg : X.A.guards = some []) (tk : Takes X (upX B W)) (hb : KBd X.K fd ps n ks gD) (ha : JCl B X es kws ks t)
    (ht : eval (.Call (.Attribute o m apos) es kws pos) X.env = (do
      let ov ← eval o X.env
      standAt apos.atName
      let (f, first) ← holding [ov] (getMethod ov m pl)
      callWith pos f first (backTo pos (starEach es X.env)) (backToKw pos (keywordEach kws X.env))) := by rfl) : JE B X (.Call (.Attribute o m apos) es kws pos) (wMeth C m n sp gD W wo t) := ⟨fun pins s σ H Q I ⟨ρ, μ, QD, rs, mh, h, kk⟩ => by
  have h1 := ho.run pins s σ H (fun v H1 => ∃ d μ1, Step (MD μ) H (MD μ1) H1 ∧ MH μ1 H1 ∧ VD (MD μ1) H1 d v ∧ ∃ a fs, d = .at a ∧ μ1 a = some (.ins C fs) ∧ fs.lookup m = none ∧ t ρ μ1 fun ds es μ2 => ds.length + 1 = n ∧ sp (gD (.at a :: ds) es) μ2 QD fun cls fs μ' => W cls fs ρ μ') I
    (up_mk rs mh h fun v H' d μ' a b c e => ⟨d, μ', a, b, c, e⟩)
  refine PySem.W.methodCall_KW (pl := pl) (thn h1 fun u s1 ⟨v, H1, I1, rv, d, μ1, st1, m1, v1, a, fs, ed, ea, el, q⟩ => ?_) ht
  subst ed
  rw [show v = V.ref a from v1] at rv
  obtain rfl : u = Value.ref a := rv
  obtain ⟨dx, gs, e1, kd⟩ := m1 a _ ea
  refine getmeth_ok I1 e1 c hm (KD.lookup_none kd el) ?_
  refine ha pos _ [.ref a] pins s1 σ H1 ρ μ1 _ _ hm.kp I1 (rs.step st1) m1 q fun ds es μ2 H2 vs zs us ws s2 st m2 v1 v2 r1 r2 l2 I2 q => ?_
  exact run_D (us := .ref a :: us) (vs := .ref a :: vs) (ds := .at a :: ds) F hr hg hb tk I2 ((rs.step st1).step st) m2 ⟨_, _, rfl, rfl, v1⟩ v2 (.cons rfl r1) r2 (by rw [List.length_cons, ← r1.length, ← v1.length]; exact q.1) l2 q.2 fun v H' z => kk v H' (z.trans (st1.trans st))⟩
/-- C(..): a new instance, then __init__ -/
def wMake (C : Addr) (n : Nat) (sp : SpD) (gD : List D → List D → List D) (W : WXD) (t : WCl) : WE := fun ρ μ Q => t ρ μ fun ds es μ1 => ds.length + 1 = n ∧ ∀ a, μ1 a = none → sp (gD (.at a :: ds) es) (put μ1 a (.ins C [])) (fun d μ2 => d = .non ∧ Q (.at a) μ2) fun cls fs μ' => W cls fs ρ μ'
theorem make_guards {A : Around} {C : Addr} {us : List Value} {kw : List (Str × Value)} : (A.under (.builtin "type.__call__" ⟨.ref C :: us, kw⟩)).guards = A.guards := by
  cases h : A.guards with
  | none => simp [Around.under, h, pushGuards, Code.guards, Code.isGuard, guardIds]
  | some l => simp [Around.under, h, pushGuards, Code.guards, Code.isGuard, guardIds]
theorem je_make (M : Mk X.K C f) (F : FnG X.prog X.w X.K X.mg X.base k f fd ps sp) (hr : Room (k + 1) X.A) (hg : X.A.guards = some []) (tk : Takes X (upX B W)) (hm : X.mg x = some (.ref C)) (hb : KBd X.K fd ps n ks gD) (ha : JCl B X es kws ks t)
    (hgl : Gl X x := by rfl) (hdb : (x == ("__debug__" : Str)) = false := by decide) : JE B X (.Call (.Name x p) es kws pos) (wMake C n sp gD W t) := ⟨fun pins s σ H Q I ⟨ρ, μ, QD, rs, mh, h, kk⟩ => by
  refine wpAny_Call_Name_kw (ld_glob I hgl hm ?_ hdb)
  refine ha pos _ [] pins s σ H ρ μ _ _ M.kp I rs mh h fun ds es μ1 H1 vs zs us ws s1 st m1 v1 v2 r1 r2 l2 I1 q => ?_
  show wpAny _ _ (call (.ref C) us (ks.zip ws)) _ _ _
  have f1 : H1 s1.heap.objs.size = none := I1.hok.fresh (Nat.le_refl _)
  have f2 : H1 (s1.heap.objs.size + 1) = none := I1.hok.fresh (Nat.le_succ _)
  have I2 := Inv.made (C := C) I1
  have stA : Step (MD μ1) H1 (MD μ1) (upd H1 s1.heap.objs.size (.own (s1.heap.objs.size + 1))) := .new f1
  have mA := m1.newF (o := .own (s1.heap.objs.size + 1)) f1
  have f3 : (upd H1 s1.heap.objs.size (.own (s1.heap.objs.size + 1))) (s1.heap.objs.size + 1) = none := by
    rw [upd_ne (Nat.ne_of_gt (Nat.lt_succ_self _))]
    exact f2
  have stB : Step (MD μ1) (upd H1 s1.heap.objs.size (.own (s1.heap.objs.size + 1))) (MD (put μ1 (s1.heap.objs.size + 1) (.ins C []))) (upd (upd H1 s1.heap.objs.size (.own (s1.heap.objs.size + 1))) (s1.heap.objs.size + 1) (.ins C s1.heap.objs.size [])) := .newM f3
  have stC := stA.trans stB
  have mB : MH (put μ1 (s1.heap.objs.size + 1) (.ins C [])) (upd (upd H1 s1.heap.objs.size (.own (s1.heap.objs.size + 1))) (s1.heap.objs.size + 1) (.ins C s1.heap.objs.size [])) := mA.newM f3 ⟨_, _, upd_same, .nil⟩
  have hq := q.2 (s1.heap.objs.size + 1) (m1.free f2)
  have n1 : (Value.ref (s1.heap.objs.size + 1) :: us).length = n := by
    rw [List.length_cons, ← r1.length, ← v1.length]
    exact q.1
  obtain ⟨qs, hbd, hrel⟩ := hb.to _ (Value.ref (s1.heap.objs.size + 1) :: us) ws I2.kIn n1 l2
  obtain ⟨xs, rx, vx⟩ := hrel (MD (put μ1 (s1.heap.objs.size + 1) (.ins C []))) _ (.at (s1.heap.objs.size + 1) :: ds) es (V.ref (s1.heap.objs.size + 1) :: vs) zs ⟨_, _, rfl, rfl, VDs.step stC _ _ v1⟩ (VDs.step stC _ _ v2) (.cons rfl r1) r2
  have I3 : Env0 X.prog X.w X.K X.mg X.base (X.A.under (.builtin "type.__call__" ⟨.ref C :: us, ks.zip ws⟩)) X.stack _ _ := I2.env0.make C us (ks.zip ws)
  refine wpAny_call (make_map (f := f) I1.kIn M.makes M.init (beq_iff_eq.mp M.fn) (codeAny_mono (F.run _ X.stack _ _ ⟨Value.ref (s1.heap.objs.size + 1) :: us, ks.zip ws⟩ qs xs (fun v H2 => v = .non ∧ Q (.ref (s1.heap.objs.size + 1)) H2) (fun cls d H' => upX B W cls d σ H') (make_guards.trans hg) (hr.make C us (ks.zip ws)) I3 hbd rx
    ⟨_, _, _, _, vx, mB, hq, ?_, fun cls d H' ⟨fs, μ', s2, m2, f2, w2⟩ => ⟨fs, ρ, μ', f2, ((rs.step st).step stC).step s2, m2, w2⟩⟩) fun r s' hq' => ?_))
  · rintro v H' ⟨d, μ', s2, m2, v2, rfl, q2⟩
    exact ⟨v2, kk _ _ ⟨.at (s1.heap.objs.size + 1), μ', (st.trans stC).trans s2, m2, rfl, q2⟩⟩
  · cases r with
    | error e => exact tk e s' (XE.of_call I2 (fun cls d H' z => z) hq')
    | ok fl =>
      cases fl with
      | ret u =>
        obtain ⟨v, H', I4, rv, ev, q3⟩ := I2.after hq'
        subst ev
        exact ⟨rv, ⟨V.ref (s1.heap.objs.size + 1), H', I4, rfl, q3⟩⟩
      | next => exact hq'.elim
      | brk => exact hq'.elim
      | cont => exact hq'.elim⟩
end
end Dl
namespace Dl
open PySem PySem.Spec PyProof.Rows L2
variable {B : Bs}
/-! ### comprehensions -/
def wipeD (ρ : Rho) : List Nat → Rho
  | [] => ρ
  | v :: vs => (wipeD ρ vs).set v none
theorem wipe_get (σ : L2.St) : ∀ (vs : List Nat) (i : Nat), (wipe σ vs)[i]? = if i ∈ vs then (σ[i]?).map (fun _ => none) else σ[i]?
  | [], i => by rw [if_neg (by simp)]; rfl
  | v :: vs, i => by
    show ((wipe σ vs).set v none)[i]? = _
    by_cases e : i = v
    · subst e
      rw [if_pos List.mem_cons_self]
      by_cases hl : i < σ.length
      · rw [List.getElem?_set_self (by rw [wipe_length]; exact hl), List.getElem?_eq_getElem hl]
        rfl
      · rw [List.getElem?_eq_none (by rw [List.length_set, wipe_length]; omega), List.getElem?_eq_none (by omega)]
        rfl
    · rw [List.getElem?_set_ne (Ne.symm e), wipe_get σ vs i]
      have q : (i ∈ v :: vs) ↔ i ∈ vs := by simp [e]
      simp only [q]
theorem wipeD_length (ρ : Rho) : ∀ vs : List Nat, (wipeD ρ vs).length = ρ.length
  | [] => rfl
  | v :: vs => by
    show ((wipeD ρ vs).set v none).length = _
    rw [List.length_set, wipeD_length ρ vs]
theorem wipeD_get (ρ : Rho) : ∀ (vs : List Nat) (i : Nat) (d : D), (wipeD ρ vs)[i]? = some (some d) → i ∉ vs ∧ ρ[i]? = some (some d)
  | [], i, d, h => ⟨by simp, h⟩
  | v :: vs, i, d, h => by
    have h' : ((wipeD ρ vs).set v none)[i]? = some (some d) := h
    by_cases e : i = v
    · subst e
      by_cases hl : i < (wipeD ρ vs).length
      · rw [List.getElem?_set_self hl] at h'
        cases h'
      · rw [List.getElem?_eq_none (by rw [List.length_set]; omega)] at h'
        cases h'
    · rw [List.getElem?_set_ne (Ne.symm e)] at h'
      obtain ⟨a, b⟩ := wipeD_get ρ vs i d h'
      exact ⟨by simp [e, a], b⟩
theorem RS.wipe {M : Ms} {H : Hp} {ρ : Rho} {σ : L2.St} (vs : List Nat) (r : RS B M H ρ σ) : RS B M H (wipeD ρ vs) (wipe σ vs) := by
  refine ⟨by rw [wipeD_length, wipe_length]; exact r.1, fun i d e => ?_, r.2.2⟩
  obtain ⟨n, e1⟩ := wipeD_get ρ vs i d e
  obtain ⟨v, e2, h⟩ := r.2.1 i d e1
  exact ⟨v, by rw [wipe_get, if_neg n]; exact e2, h⟩
theorem wipe_wipe (σ : L2.St) (vs : List Nat) : wipe (wipe σ vs) vs = wipe σ vs := by
  refine List.ext_getElem? fun i => ?_
  rw [wipe_get, wipe_get]
  by_cases h : i ∈ vs
  · rw [if_pos h, if_pos h]
    cases σ[i]? <;> rfl
  · rw [if_neg h, if_neg h]
theorem wipe_set (σ : L2.St) {vs : List Nat} {i : Nat} (h : i ∈ vs) (x : Option V) : wipe (σ.set i x) vs = wipe σ vs := by
  refine List.ext_getElem? fun j => ?_
  rw [wipe_get, wipe_get]
  by_cases e : j = i
  · subst e
    rw [if_pos h, if_pos h]
    by_cases hl : j < σ.length
    · rw [List.getElem?_set_self hl, List.getElem?_eq_getElem hl]
      rfl
    · rw [List.getElem?_eq_none (by rw [List.length_set]; omega), List.getElem?_eq_none (by omega)]
  · rw [List.getElem?_set_ne (Ne.symm e)]
/-- a target of a comprehension: names among vs alone -/
def CT (B : Bs) (g : TG) (w : WG) (vs : List Nat) : Prop := ∀ v d σ H ρ μ QD, VD (MD μ) H d v → RS B (MD μ) H ρ σ → w d ρ μ QD → ∀ Q : L2.St → Hp → Prop, (∀ σ2 ρ2, wipe σ2 vs = wipe σ vs → RS B (MD μ) H ρ2 σ2 → QD ρ2 μ → Q σ2 H) → g v σ H Q
def CTs (B : Bs) (g : TGs) (w : WGs) (vs : List Nat) : Prop := ∀ xs ds σ H ρ μ QD, VDs (MD μ) H ds xs → RS B (MD μ) H ρ σ → w ds ρ μ QD → ∀ Q : L2.St → Hp → Prop, (∀ σ2 ρ2, wipe σ2 vs = wipe σ vs → RS B (MD μ) H ρ2 σ2 → QD ρ2 μ → Q σ2 H) → g xs σ H Q
theorem ct_name {vs : List Nat} (i : Nat) (h : i ∈ vs := by decide) : CT B (gName i) (wgName i) vs := fun v d σ H ρ μ QD vd rs q Q k => k _ _ (wipe_set σ h _) (rs.set i vd) q
theorem cts_nil {vs : List Nat} : CTs B gNil wgNil vs := fun xs ds σ H ρ μ QD vd rs q Q k => by
  obtain ⟨e, q⟩ := q
  subst e
  exact ⟨vd, k σ ρ rfl rs q⟩
theorem cts_cons {vs : List Nat} {g : TG} {w : WG} {gs : TGs} {ws : WGs} (h1 : CT B g w vs) (h2 : CTs B gs ws vs) : CTs B (gCons g gs) (wgCons w ws) vs := fun xs ds σ H ρ μ QD vd rs q Q k => by
  obtain ⟨d, es, e, q⟩ := q
  subst e
  obtain ⟨v, us, rfl, v1, v2⟩ := vd
  exact ⟨v, us, rfl, h1 v d σ H ρ μ _ v1 rs q _ fun σ2 ρ2 e2 r2 q2 => h2 us es σ2 H ρ2 μ QD v2 r2 q2 Q fun σ3 ρ3 e3 r3 q3 => k σ3 ρ3 (e3.trans e2) r3 q3⟩
theorem ct_tup {K : Frg} {vs : List Nat} {gs : TGs} {ws : WGs} (n : Nat) (h : CTs B gs ws vs) : CT B (gTup K n gs) (wgTup n ws) vs := fun v d σ H ρ μ QD vd rs q Q k => by
  unfold wgTup at q
  split at q
  · rename_i ds
    obtain ⟨a, xs, ev, f, g⟩ := vd
    exact ⟨a, xs, ev, SqT.of f.2, by rw [← g.length]; exact q.1, h xs ds σ H ρ μ QD g rs q.2 Q k⟩
  · exact q.elim
/-- tests of a clause -/
abbrev JTs (B : Bs) (X : Cx) (es : List Expr) (w : WT) : Prop := PTs X es (upT B w)
def wYes : WT := fun _ μ Q => Q true μ
theorem PTs.of {X : Cx} {es : List Expr} {t t' : TT} (h : PTs X es t) (g : ∀ σ H Q, t' σ H Q → t σ H Q) : PTs X es t' := ⟨fun pins s σ H Q I q => h.run pins s σ H Q I (g σ H Q q)⟩
theorem jts_nil {X : Cx} : JTs B X [] wYes := PTs.of pts_nil fun σ H Q ⟨ρ, μ, QD, rs, m, h, k⟩ => k true H μ .refl m h
theorem jts_one {X : Cx} {c : Expr} {t : WT} (h : JT B X c t) : JTs B X [c] t := pts_one h
/-- [elt for target in iter if ..]; L is the new list while it grows -/
def wLc (wi : WI) (g : WG) (t : WT) (a : WE) (vs : List Nat) : WE := fun ρ μ Q => wi ρ μ fun ds kp μ1 => ds.length ≤ 1000000 ∧ ∀ L, μ1 L = none → ∃ P : Nat → Mu → Prop, P 0 (put μ1 L (.lst [])) ∧ (∀ i μ, i ≤ ds.length → P i μ → kp μ) ∧
  (∀ i d μ, ds[i]? = some d → P i μ → g d (wipeD ρ vs) μ fun ρ2 μ2 => t ρ2 μ2 fun b μ3 => Br b (a ρ2 μ3 fun e μ4 => ∃ acc, μ4 L = some (.lst acc) ∧ acc.length ≤ i ∧ P (i + 1) (put μ4 L (.lst (acc ++ [e])))) (P (i + 1) μ3)) ∧
  ∀ μ, P ds.length μ → wkR Q (.at L) μ
theorem up_lc {X : Cx} {wi : WI} {g : TG} {w : WG} {t : WT} {a : WE} {vs : List Nat} (ct : CT B g w vs) {σ : L2.St} {H : Hp} {Q : VK} (h : up B (wLc wi w t a vs) σ H Q) : tLc (upI B wi) g (upT B t) (up B a) vs σ H Q := by
  obtain ⟨ρ, μ, QD, rs, m, h, k⟩ := h
  refine ⟨ρ, μ, _, rs, m, h, fun J H1 ds kp μ1 s1 m1 gv ⟨sz, h1⟩ L hL => ?_⟩
  obtain ⟨P, p0, pk, ps, pd⟩ := h1 L (m1.free hL)
  have st0 : Step (MD μ1) H1 (MD (put μ1 L (.lst []))) (upd H1 L (.lst [])) := .newM hL
  have m0 : MH (put μ1 L (.lst [])) (upd H1 L (.lst [])) := m1.newM hL ⟨[], upd_same, rfl⟩
  refine lc_it gv (fun i H2 => ∃ μ, Step (MD μ1) H1 (MD μ) H2 ∧ MH μ H2 ∧ P i μ) ⟨_, st0, m0, p0⟩ (fun i H2 hi ⟨μ2, st, mh, p⟩ => ⟨μ2, st, mh, pk i μ2 hi p⟩) ?_ ?_
  · rintro i x H2 H3 hi ⟨μ2, st, mh, p⟩ y
    obtain ⟨d, hd, st2, mh2, vd⟩ := y μ2 st mh (pk i μ2 (Nat.le_of_lt hi) p)
    have st3 := st.trans st2
    have r2 := ((rs.step s1).step st3).wipe vs
    refine ct x d _ H3 _ μ2 _ vd r2 (ps i d μ2 hd p) _ fun σ4 ρ4 e4 r4 q4 => ⟨e4.trans (wipe_wipe σ vs), ?_⟩
    refine upT_mk r4 mh2 q4 fun b H5 μ5 s5 m5 q5 => (q5.mono (fun q => ?_) fun q => ?_).ite
    · refine up_mk (r4.step s5) m5 q fun v H6 e μ6 s6 m6 v6 ⟨acc, h6, l6, p6⟩ => ?_
      obtain ⟨xs, e6, g6⟩ := m6 L _ h6
      have st7 : Step (MD μ6) H6 (MD (put μ6 L (.lst (acc ++ [e])))) (upd H6 L (.lst (xs ++ [v]))) := .write ⟨_, h6⟩
      refine ⟨xs, e6, ?_, _, ((st3.trans s5).trans s6).trans st7, m6.write ⟨_, h6⟩ ⟨_, upd_same, VDs.append (VDs.step st7 _ _ g6) ⟨v, [], rfl, VD.step st7 _ _ v6, rfl⟩⟩, p6⟩
      rw [← g6.length, sizeLine_eq]
      omega
    · exact ⟨μ5, st3.trans s5, m5, q⟩
  · rintro H2 ⟨μ2, st, mh, p⟩
    obtain ⟨d', μ3, wk, q⟩ := pd μ2 p
    exact k _ _ ⟨d', μ3, (s1.trans st).trans (wk _ mh).1.1, (wk _ mh).1.2, (wk _ mh).2 _ rfl, q⟩
section
variable {X : Cx} {elt tg iter : Expr} {ifs : List Expr} {scope : Scope} {own : List (Str × Nat)} {pos : Pos} {wi : WI} {g : TG} {w : WG} {t : WT} {a : WE}
theorem je_lc (hN : X.N.Nodup) (hi : JI B X tg iter wi) (ok : BlkOk X.N X.env.scope scope own) (ct : CT B g w (own.map (·.2))) (hg : ∀ (s : Shared) (H : Hp) (C : Addr) (cl : List (Str × Addr)) (fp : List Addr), PG (X.blk s H scope (compEnvC scope cl C X.env) fp) tg g)
    (ht : ∀ (s : Shared) (H : Hp) (C : Addr) (cl : List (Str × Addr)) (fp : List Addr), JTs B (X.blk s H scope (compEnvC scope cl C X.env) fp) ifs t) (he : ∀ (s : Shared) (H : Hp) (C : Addr) (cl : List (Str × Addr)) (fp : List Addr), JE B (X.blk s H scope (compEnvC scope cl C X.env) fp) elt a)
    (hc : X.calm = true := by rfl) (hs : ∀ x, foldedSetIterable iter X.env x = pure x := by intro _; rfl) : JE B X (.ListComp elt [⟨tg, iter, ifs, 0⟩] scope pos) (wLc wi w t a (own.map (·.2))) :=
  PE.of (pe_lc hc hN hi ok hg ht he hs) fun σ H Q h => up_lc (X := X) ct h
/-- name = [..] -/
theorem js_setLc (i : Nat) {y : Str} {py spos : Pos} (hN : X.N.Nodup) (hi : JI B X tg iter wi) (ok : BlkOk X.N X.env.scope scope own) (ct : CT B g w (own.map (·.2))) (hg : ∀ (s : Shared) (H : Hp) (C : Addr) (cl : List (Str × Addr)) (fp : List Addr), PG (X.blk s H scope (compEnvC scope cl C X.env) fp) tg g)
    (ht : ∀ (s : Shared) (H : Hp) (C : Addr) (cl : List (Str × Addr)) (fp : List Addr), JTs B (X.blk s H scope (compEnvC scope cl C X.env) fp) ifs t) (he : ∀ (s : Shared) (H : Hp) (C : Addr) (cl : List (Str × Addr)) (fp : List Addr), JE B (X.blk s H scope (compEnvC scope cl C X.env) fp) elt a)
    (hsw : swapsWith (.ListComp elt [⟨tg, iter, ifs, 0⟩] scope pos) (some (.Name y py)) spos.line X.env = pure true) (hc : X.calm = true := by rfl) (hy : X.N[i]? = some y := by rfl) (hyl : X.env.scope.names.lookup y = some .local := by rfl) (hs : ∀ x, foldedSetIterable iter X.env x = pure x := by intro _; rfl) :
    JS B X (.Assign [.Name y py] (.ListComp elt [⟨tg, iter, ifs, 0⟩] scope pos) spos) (wSet i (wLc wi w t a (own.map (·.2)))) :=
  PS.of (ps_setLc hc hN hy hyl hsw hi ok hg ht he hs) fun E σ H ⟨ρ, μ, DD, rs, m, h, l⟩ => up_lc (X := X) ct (up_mk rs m h fun v H' d μ' s m' r q => l.nx _ H' _ μ' s ((rs.step s).set i r) m' q)
end
/-- a comprehension whose turns leave all as it stands: R of the turns and the items made -/
def lcP (R : Nat → List D → Prop) (μ1 : Mu) (L : Addr) (i : Nat) (μ : Mu) : Prop := ∃ acc, μ = put μ1 L (.lst acc) ∧ acc.length ≤ i ∧ R i acc
theorem lc_by {g : WG} {t : WT} {a : WE} {vs : List Nat} {ρ : Rho} {Q : DQ} {ds : List D} {kp : Mu → Prop} {μ1 : Mu} (R : Nat → List D → Prop) (sz : ds.length ≤ 1000000) (h0 : R 0 []) (hk : ∀ L acc, μ1 L = none → kp (put μ1 L (.lst acc)))
    (hd : ∀ acc, acc.length ≤ ds.length → R ds.length acc → Q (.lst acc) μ1)
    (hs : ∀ L i d acc, μ1 L = none → acc.length ≤ i → ds[i]? = some d → R i acc → g d (wipeD ρ vs) (put μ1 L (.lst acc)) fun ρ2 μ2 => t ρ2 μ2 fun b μ3 => Br b (a ρ2 μ3 fun e μ4 => ∃ acc, μ4 L = some (.lst acc) ∧ acc.length ≤ i ∧ lcP R μ1 L (i + 1) (put μ4 L (.lst (acc ++ [e])))) (lcP R μ1 L (i + 1) μ3)) :
    ds.length ≤ 1000000 ∧ ∀ L, μ1 L = none → ∃ P : Nat → Mu → Prop, P 0 (put μ1 L (.lst [])) ∧ (∀ i μ, i ≤ ds.length → P i μ → kp μ) ∧
  (∀ i d μ, ds[i]? = some d → P i μ → g d (wipeD ρ vs) μ fun ρ2 μ2 => t ρ2 μ2 fun b μ3 => Br b (a ρ2 μ3 fun e μ4 => ∃ acc, μ4 L = some (.lst acc) ∧ acc.length ≤ i ∧ P (i + 1) (put μ4 L (.lst (acc ++ [e])))) (P (i + 1) μ3)) ∧
  ∀ μ, P ds.length μ → wkR Q (.at L) μ := by
  refine ⟨sz, fun L hL => ⟨lcP R μ1 L, ⟨[], rfl, Nat.le_refl _, h0⟩, ?_, ?_, ?_⟩⟩
  · rintro i μ _ ⟨acc, rfl, _, _⟩
    exact hk L acc hL
  · rintro i d μ hd ⟨acc, rfl, la, r⟩
    exact hs L i d acc hL la hd r
  · rintro μ ⟨acc, rfl, la, r⟩
    exact .froze ((Less.refl μ1).put hL) put_same hL (hd acc la r)
theorem lc_more {R : Nat → List D → Prop} {μ1 : Mu} {L : Addr} {i : Nat} {acc : List D} {e : D} (l : acc.length ≤ i) (r : R (i + 1) (acc ++ [e])) : ∃ acc', (put μ1 L (.lst acc)) L = some (.lst acc') ∧ acc'.length ≤ i ∧ lcP R μ1 L (i + 1) (put (put μ1 L (.lst acc)) L (.lst (acc' ++ [e]))) :=
  ⟨acc, put_same, l, acc ++ [e], put_put, by simp; omega, r⟩
theorem lc_skip {R : Nat → List D → Prop} {μ1 : Mu} {L : Addr} {i : Nat} {acc : List D} (l : acc.length ≤ i) (r : R (i + 1) acc) : lcP R μ1 L (i + 1) (put μ1 L (.lst acc)) := ⟨acc, rfl, by omega, r⟩
end Dl
namespace Dl
open PySem PySem.Spec PyProof.Rows L2
variable {B : Bs}
/-! ### dicts as tables of data -/
section
variable {κ : Type} [DecidableEq κ]
def atD (kvs : List (κ × D)) (k : κ) : Option D := (kvs.find? fun kv => decide (kv.1 = k)).map (·.2)
def putD (kvs : List (κ × D)) (k : κ) (v : D) : List (κ × D) := if (kvs.any fun kv => decide (kv.1 = k)) = true then kvs.map (fun kv => if kv.1 = k then (kv.1, v) else kv) else kvs ++ [(k, v)]
def dropD (kvs : List (κ × D)) (k : κ) : List (κ × D) := kvs.filter fun kv => decide (kv.1 ≠ k)
variable {M : Ms} {H : Hp}
theorem KD.any : ∀ {xs : List (κ × D)} {ys : List (κ × V)}, KD M H xs ys → ∀ k, (xs.any fun kv => decide (kv.1 = k)) = ys.any fun kv => decide (kv.1 = k)
  | _, _, .nil, _ => rfl
  | _, _, .cons r t, k => by rw [List.any_cons, List.any_cons, KD.any t k, r.1]
theorem KD.at : ∀ {xs : List (κ × D)} {ys : List (κ × V)}, KD M H xs ys → ∀ k, (∀ d, atD xs k = some d → ∃ v, valV ys k = some v ∧ VD M H d v) ∧ (atD xs k = none → valV ys k = none)
  | _, _, .nil, k => ⟨fun d e => (by cases e), fun _ => rfl⟩
  | (a, d) :: xs, (b, v) :: ys, .cons r t, k => by
    obtain ⟨e, hv⟩ := r
    have e' : a = b := e
    subst e'
    have ih := KD.at t k
    unfold atD valV at *
    rw [List.find?_cons, List.find?_cons]
    by_cases q : a = k
    · simp only [q, decide_true]
      exact ⟨fun d' e => by cases e; exact ⟨v, rfl, hv⟩, fun e => by cases e⟩
    · simp only [decide_eq_false q]
      exact ih
theorem KD.map {v : V} {d : D} (hv : VD M H d v) (k : κ) : ∀ {xs : List (κ × D)} {ys : List (κ × V)}, KD M H xs ys → KD M H (xs.map fun kv => if kv.1 = k then (kv.1, d) else kv) (ys.map fun kv => if kv.1 = k then (kv.1, v) else kv)
  | _, _, .nil => .nil
  | (a, x) :: xs, (b, y) :: ys, .cons r t => by
    obtain ⟨e, hx⟩ := r
    have e' : a = b := e
    subst e'
    refine .cons ?_ (KD.map hv k t)
    show (if a = k then (a, d) else (a, x)).1 = (if a = k then (a, v) else (a, y)).1 ∧ VD M H (if a = k then (a, d) else (a, x)).2 (if a = k then (a, v) else (a, y)).2
    by_cases q : a = k
    · rw [if_pos q, if_pos q]
      exact ⟨rfl, hv⟩
    · rw [if_neg q, if_neg q]
      exact ⟨rfl, hx⟩
theorem KD.app : ∀ {xs xs' : List (κ × D)} {ys ys' : List (κ × V)}, KD M H xs ys → KD M H xs' ys' → KD M H (xs ++ xs') (ys ++ ys')
  | _, _, _, _, .nil, g => g
  | _, _, _, _, .cons r t, g => .cons r (KD.app t g)
theorem KD.put {v : V} {d : D} (hv : VD M H d v) (k : κ) {xs : List (κ × D)} {ys : List (κ × V)} (h : KD M H xs ys) : KD M H (putD xs k d) (putK ys k v) := by
  unfold putD putK
  rw [h.any k]
  split
  · exact KD.map hv k h
  · exact h.app (.cons ⟨rfl, hv⟩ .nil)
theorem KD.drop (k : κ) : ∀ {xs : List (κ × D)} {ys : List (κ × V)}, KD M H xs ys → KD M H (dropD xs k) (dropK ys k)
  | _, _, .nil => .nil
  | (a, x) :: xs, (b, y) :: ys, .cons r t => by
    obtain ⟨e, hx⟩ := r
    have e' : a = b := e
    subst e'
    unfold dropD dropK at *
    by_cases q : a = k
    · rw [List.filter_cons_of_neg (by simp [q]), List.filter_cons_of_neg (by simp [q])]
      exact KD.drop k t
    · rw [List.filter_cons_of_pos (by simp [q]), List.filter_cons_of_pos (by simp [q])]
      exact .cons ⟨rfl, hx⟩ (KD.drop k t)
theorem KD.length : ∀ {xs : List (κ × D)} {ys : List (κ × V)}, KD M H xs ys → xs.length = ys.length
  | _, _, .nil => rfl
  | _, _, .cons _ t => congrArg (· + 1) (KD.length t)
theorem KD.get : ∀ {xs : List (κ × D)} {ys : List (κ × V)} {i : Nat} {k : κ} {d : D}, KD M H xs ys → xs[i]? = some (k, d) → ∃ v, ys[i]? = some (k, v) ∧ VD M H d v
  | _, _, _, _, _, .nil, e => by simp at e
  | _, (b, v) :: ys, 0, k, d, .cons r t, e => by
    simp only [List.getElem?_cons_zero, Option.some.injEq] at e
    obtain ⟨e1, h⟩ := r
    subst e
    exact ⟨v, by rw [show k = b from e1]; rfl, h⟩
  | _, _ :: ys, i + 1, k, d, .cons r t, e => by
    obtain ⟨v, e1, h⟩ := KD.get (i := i) t (by simpa using e)
    exact ⟨v, by simpa using e1, h⟩
end
/-! ### keys -/
def keyD : D → Option Key
  | .int i => some (.inl i)
  | .str x => some (.inr x)
  | _ => none
def Dk : Key → D
  | .inl i => .int i
  | .inr x => .str x
theorem keyD_v {M : Ms} {H : Hp} {d : D} {k : Key} {v : V} (h : keyD d = some k) (r : VD M H d v) : v = kV k := by
  cases d with
  | int i =>
    cases h
    exact r
  | str i =>
    cases h
    exact r
  | _ => cases h
theorem Dk_v {M : Ms} {H : Hp} (k : Key) : VD M H (Dk k) (kV k) := by
  cases k <;> exact rfl
def keysD : List D → Option (List Key)
  | [] => some []
  | d :: ds => match keyD d, keysD ds with
    | some k, some ks => some (k :: ks)
    | _, _ => none
theorem keysD_v {M : Ms} {H : Hp} : ∀ {ds : List D} {ks : List Key} {xs : List V}, keysD ds = some ks → VDs M H ds xs → xs = ks.map kV
  | [], ks, xs, h, r => by
    cases h
    exact r
  | d :: ds, ks, xs, h, r => by
    obtain ⟨v, vs, rfl, r1, r2⟩ := r
    unfold keysD at h
    split at h
    · rename_i k ks' e1 e2
      cases h
      rw [keyD_v e1 r1, keysD_v e2 r2]
      rfl
    · cases h
/-- what the dict d holds at the key e -/
def GetD (μ : Mu) (d e : D) (o : Option D) : Prop := match d with
  | .at a => (∃ kvs k, (μ a = some (.dK kvs) ∨ ∃ ob ks, μ a = some (.fz ob ks kvs)) ∧ keyD e = some k ∧ o = atD kvs k) ∨ ∃ kvs ks k, μ a = some (.dT kvs) ∧ e = .tup ks ∧ keysD ks = some k ∧ o = atD kvs k
  | _ => False
def OV (M : Ms) (H : Hp) : Option D → Option V → Prop
  | none, r => r = none
  | some z, r => ∃ v, r = some v ∧ VD M H z v
theorem GetD.to {μ : Mu} {H : Hp} {d e : D} {o : Option D} {x y : V} (mh : MH μ H) (v1 : VD (MD μ) H d x) (v2 : VD (MD μ) H e y) (h : GetD μ d e o) :
    ∃ a r, x = .ref a ∧ DGet H a y r ∧ IsD H a ∧ OV (MD μ) H o r := by
  cases d with
  | «at» a =>
    rcases h with ⟨kvs, k, h1, h2, rfl⟩ | ⟨kvs, ks, k, h1, rfl, h3, rfl⟩
    · obtain ⟨ks, e1, kd⟩ : ∃ ks, Rd H a (.dK ks) ∧ KD (MD μ) H kvs ks := by
        rcases h1 with h1 | ⟨ob, ks, h1⟩
        · obtain ⟨ks, e1, kd⟩ := mh a _ h1
          exact ⟨ks, .inl e1, kd⟩
        · obtain ⟨e1, kd⟩ := mh a _ h1
          exact ⟨ks, .inr ⟨ob, e1⟩, kd⟩
      refine ⟨a, valV ks k, v1, .inl ⟨ks, k, e1, keyD_v h2 v2, rfl⟩, .inl ⟨ks, e1⟩, ?_⟩
      have q := kd.at k
      cases ez : atD kvs k with
      | none => exact q.2 ez
      | some z => exact q.1 z ez
    · obtain ⟨ks', e1, kd⟩ := mh a _ h1
      obtain ⟨b, xs, rfl, f, g⟩ := v2
      have ex := keysD_v h3 g
      subst ex
      refine ⟨a, valV ks' k, v1, .inr ⟨ks', k, b, .inl e1, rfl, f.2, rfl⟩, .inr ⟨ks', .inl e1⟩, ?_⟩
      have q := kd.at k
      cases ez : atD kvs k with
      | none => exact q.2 ez
      | some z => exact q.1 z ez
  | _ => exact h.elim
section
variable {X : Cx} {x y z : Expr} {a b c : WE} {pos : Pos}
/-- d[k] -/
def wDGet (d k : WE) : WE := fun ρ μ Q => d ρ μ fun e μ1 => k ρ μ1 fun f μ2 => ∃ v, GetD μ2 e f (some v) ∧ Q v μ2
theorem je_dget (hu : X.A.units + 1 < cLine) (ho : JE B X x a) (hi : JE B X y b) (hs : NoSl y := by exact fun _ _ => rfl) : JE B X (.Subscript x y pos) (wDGet a b) := PE.of (pe_dget hu ho hi hs) fun σ H Q ⟨ρ, μ, QD, rs, m, h, k⟩ =>
  up_mk rs m h fun v H1 d μ1 s1 m1 v1 h1 => up_mk (rs.step s1) m1 h1 fun u H2 e μ2 s2 m2 v2 ⟨z, g, q⟩ => by
    obtain ⟨p, r, ep, dg, _, v, er, hv⟩ := g.to m2 (VD.step s2 _ _ v1) v2
    subst er
    exact ⟨p, v, ep, dg, k _ _ ⟨z, μ2, s1.trans s2, m2, hv, q⟩⟩
/-- k in d, k not in d -/
def wDIn (n : Bool) (k d : WE) : WE := fun ρ μ Q => k ρ μ fun f μ1 => d ρ μ1 fun e μ2 => ∃ o, GetD μ2 e f o ∧ Q (.bl (if n then !o.isSome else o.isSome)) μ2
theorem GetD.some {o : Option D} {r : Option V} {M : Ms} {H : Hp} (h : OV M H o r) : r.isSome = o.isSome := by
  cases o with
  | none => rw [show r = none from h]; rfl
  | some z => obtain ⟨v, e, _⟩ := h; rw [e]; rfl
theorem jt_dnotin (hu : X.A.units + 1 < cLine) (hi : JE B X y b) (ho : JE B X x a) (hm : behindInMarks .NotIn x = false := by rfl) : JT B X (.Compare y [.NotIn] [x] pos) (wB (wDIn true b a)) := PT.of (pt_cmp (pc_dnotin hu hi ho) hm) fun σ H Q h => by
  obtain ⟨ρ, μ, QD, rs, m, h, k⟩ := h
  refine up_mk rs m h fun v H1 d μ1 s1 m1 v1 h1 => up_mk (rs.step s1) m1 h1 fun u H2 e μ2 s2 m2 v2 ⟨o, g, q⟩ => ?_
  obtain ⟨p, r, ep, dg, _, hv⟩ := g.to m2 v2 (VD.step s2 _ _ v1)
  refine ⟨p, r, ep, dg, _, rfl, ?_⟩
  rw [GetD.some hv]
  exact k _ _ _ (s1.trans s2) m2 q
/-- d.get(k), d.get(k, x) -/
def wDGet1 (d k : WE) : WE := fun ρ μ Q => d ρ μ fun e μ1 => (∃ p, e = .at p) ∧ k ρ μ1 fun f μ2 => ∃ o, GetD μ2 e f o ∧ Q (o.getD .non) μ2
def isDic (μ : Mu) (e : D) : Prop := ∃ p, e = .at p ∧ ((∃ kvs, μ p = some (.dK kvs)) ∨ (∃ kvs, μ p = some (.dT kvs)) ∨ ∃ ob ks kvs, μ p = some (.fz ob ks kvs))
theorem isDic.to {μ : Mu} {H : Hp} {e : D} {v : V} (mh : MH μ H) (hv : VD (MD μ) H e v) (h : isDic μ e) : ∃ p, v = .ref p ∧ IsD H p := by
  obtain ⟨p, rfl, h⟩ := h
  refine ⟨p, hv, ?_⟩
  rcases h with ⟨kvs, h⟩ | ⟨kvs, h⟩ | ⟨ob, ks, kvs, h⟩
  · obtain ⟨ks, e1, _⟩ := mh p _ h
    exact .inl ⟨ks, .inl e1⟩
  · obtain ⟨ks, e1, _⟩ := mh p _ h
    exact .inr ⟨ks, .inl e1⟩
  · obtain ⟨e1, _⟩ := mh p _ h
    exact .inl ⟨ks, .inr ⟨ob, e1⟩⟩
def wDGet2 (d k dv : WE) : WE := fun ρ μ Q => d ρ μ fun e μ1 => isDic μ1 e ∧ k ρ μ1 fun f μ2 => dv ρ μ2 fun z μ3 => ∃ o, GetD μ3 e f o ∧ Q (o.getD z) μ3
theorem je_dget2 {apos cpos : Pos} (hu : X.A.units + 1 < cLine) (ho : JE B X x a) (he : JE B X y b) (hf : JE B X z c) (m : M2 X x "get" apos y z cpos) : JE B X (.Call (.Attribute x "get" apos) [y, z] [] cpos) (wDGet2 a b c) := PE.of (pe_dget2 hu ho he hf m) fun σ H Q ⟨ρ, μ, QD, rs, m, h, k⟩ =>
  up_mk rs m h fun v H1 d μ1 s1 m1 v1 ⟨isd, h1⟩ => by
    obtain ⟨p, ep, hp⟩ := isd.to m1 v1
    refine ⟨p, ep, hp, up_mk (rs.step s1) m1 h1 fun u H2 e μ2 s2 m2 v2 h2 => up_mk ((rs.step s1).step s2) m2 h2 fun t H3 g μ3 s3 m3 v3 ⟨o, gd, q⟩ => ?_⟩
    obtain ⟨p', r, ep', dg, _, hv⟩ := gd.to m3 (VD.step (s2.trans s3) _ _ v1) (VD.step s3 _ _ v2)
    rw [ep] at ep'
    cases ep'
    refine ⟨r, dg, k _ _ ⟨o.getD g, μ3, (s1.trans s2).trans s3, m3, ?_, q⟩⟩
    cases o with
    | none => rw [show r = none from hv]; exact v3
    | some z => obtain ⟨w, e, hw⟩ := hv; rw [e]; exact hw
/-- d[k] = v -/
def PutD (μ : Mu) (d e v : D) (Q : Mu → Prop) : Prop := match d with
  | .at p => (∃ kvs k, μ p = some (.dK kvs) ∧ keyD e = some k ∧ kvs.length ≤ 1000000 ∧ Q (put μ p (.dK (putD kvs k v)))) ∨ ∃ kvs ks k, μ p = some (.dT kvs) ∧ e = .tup ks ∧ keysD ks = some k ∧ kvs.length ≤ 1000000 ∧ Q (put μ p (.dT (putD kvs k v)))
  | _ => False
def wDPut (d k v : WE) : WS := fun DD ρ μ => v ρ μ fun g μ1 => d ρ μ1 fun e μ2 => k ρ μ2 fun f μ3 => PutD μ3 e f g fun μ4 => DD.nx ρ μ4
theorem js_dput {spos : Pos} (hu : X.A.units + 1 < cLine) (ho : JE B X x a) (hi : JE B X y b) (hv : JE B X z c) (hs : swapsWith z (some (.Subscript x y pos)) spos.line X.env = pure false := by rfl) (h2 : ∀ v, assign (.Subscript x y pos) X.env v = (do let ov ← holding [v] (eval x X.env); let iv ← holding [v, ov] (eval y X.env); standAt pos; holding [v, ov, iv] (setItem ov iv v); release [v, ov, iv] []) := by intro _; rfl) :
    JS B X (.Assign [.Subscript x y pos] z spos) (wDPut a b c) := PS.of (ps_dput hu ho hi hv hs) fun E σ H ⟨ρ, μ, DD, rs, m, h, l⟩ =>
  up_mk rs m h fun v H1 g μ1 s1 m1 v1 h1 => up_mk (rs.step s1) m1 h1 fun u H2 d μ2 s2 m2 v2 h2 => up_mk ((rs.step s1).step s2) m2 h2 fun t H3 e μ3 s3 m3 v3 h3 => by
    have s123 := (s1.trans s2).trans s3
    have v2' := VD.step s3 _ _ v2
    have v1' := VD.step (s2.trans s3) _ _ v1
    unfold PutD at h3
    split at h3
    · rename_i p
      rcases h3 with ⟨kvs, k, h4, h5, h6, h7⟩ | ⟨kvs, ks, k, h4, rfl, h5, h6, h7⟩
      · obtain ⟨ks, e1, kd⟩ := m3 p _ h4
        have st : Step (MD μ3) H3 (MD (put μ3 p (.dK (putD kvs k g)))) (upd H3 p (.dK (putK ks k v))) := .write ⟨_, h4⟩
        refine ⟨p, _, v2', .inl ⟨ks, k, e1, keyD_v h5 v3, ?_, rfl⟩, l.nx σ _ ρ _ (s123.trans st) (rs.step (s123.trans st)) (m3.write ⟨_, h4⟩ ⟨_, upd_same, KD.step st (kd.put v1' k)⟩) h7⟩
        rw [← kd.length, sizeLine_eq]
        omega
      · obtain ⟨ks', e1, kd⟩ := m3 p _ h4
        obtain ⟨q, xs, rfl, f, gg⟩ := v3
        have ex := keysD_v h5 gg
        subst ex
        have st : Step (MD μ3) H3 (MD (put μ3 p (.dT (putD kvs k g)))) (upd H3 p (.dT (putK ks' k v))) := .write ⟨_, h4⟩
        refine ⟨p, _, v2', .inr ⟨ks', k, q, e1, rfl, f.2, ?_, rfl⟩, l.nx σ _ ρ _ (s123.trans st) (rs.step (s123.trans st)) (m3.write ⟨_, h4⟩ ⟨_, upd_same, KD.step st (kd.put v1' k)⟩) h7⟩
        rw [← kd.length, sizeLine_eq]
        omega
    · exact h3.elim
/-- del d[k] -/
def DelD (μ : Mu) (d e : D) (Q : Mu → Prop) : Prop := match d with
  | .at p => (∃ kvs k, μ p = some (.dK kvs) ∧ keyD e = some k ∧ (atD kvs k).isSome = true ∧ Q (put μ p (.dK (dropD kvs k)))) ∨ ∃ kvs ks k, μ p = some (.dT kvs) ∧ e = .tup ks ∧ keysD ks = some k ∧ (atD kvs k).isSome = true ∧ Q (put μ p (.dT (dropD kvs k)))
  | _ => False
def wDDel (d k : WE) : WS := fun DD ρ μ => d ρ μ fun e μ1 => k ρ μ1 fun f μ2 => DelD μ2 e f fun μ3 => DD.nx ρ μ3
theorem d_delItemT {pins : List (Addr × Obj)} {σ : L2.St} {H : Hp} {s : Shared} {E : Value → Shared → Prop} {p q : Addr} {kvs : List (List Key × V)} {k : List Key} {Q : Unit → Shared → Prop} (hu : X.A.units + 2 < cLine) (I : Inv X pins σ H s) (e : H p = some (.dT kvs)) (eq : H q = some (.tup (k.map kV)))
    (l : (valV kvs k).isSome = true) (h : ∀ s', Inv X pins σ (upd H p (.dT (dropK kvs k))) s' → Q () s') : wpAny (model X.prog X.w) X.A (delItem (.ref p) (.ref q)) Q E s := by
  obtain ⟨z, hd, xs, rel, dd⟩ := dt_of I.hok e
  have hz : xs.length ≤ sizeLine := by rw [← Paired.length rel]; exact z
  have r := rel.val k
  obtain ⟨pp, hp⟩ : ∃ pp, atKey xs k = some pp := by
    cases ev : atKey xs k with
    | some pp => exact ⟨pp, rfl⟩
    | none =>
      rw [ev] at r
      cases ev2 : valV kvs k with
      | none => rw [ev2] at l; cases l
      | some v0 =>
        rw [ev2] at r
        exact (show False from r).elim
  refine wpAny_delItem_heap (hsz := hz) (tupleKind_room_in1 (by omega)) (key_of I.hok eq) hd dd hp fun h' dd' hs => h _ ?_
  obtain ⟨o, es, ep, hq, h2, h3, h4, _, h5⟩ := dd'
  exact d_write I (by rw [e]; exact True.intro) hs ⟨o, hq⟩ ⟨Nat.le_trans (dropK_le kvs k) z, hd, _, (L2.DX.KT_drop k rel).keeps (fun c ys ec => (by rw [upd_ne (ne_of ec e (fun z => nomatch z))]; exact ec)), o, es, ep, hq, h2, h3, h4, h5⟩
theorem js_ddel {tpos : Pos} (hu : X.A.units + 2 < cLine) (ho : JE B X x a) (hi : JE B X y b) : JS B X (.Delete [.Subscript x y tpos] pos) (wDDel a b) := ⟨fun pins s σ H E I ⟨ρ, μ, DD, rs, m, h, l⟩ => by
  have h1 := ho.run pins s σ H (fun v H1 => ∃ d μ1, Step (MD μ) H (MD μ1) H1 ∧ MH μ1 H1 ∧ VD (MD μ1) H1 d v ∧ b ρ μ1 fun f μ2 => DelD μ2 d f fun μ3 => DD.nx ρ μ3) I (up_mk rs m h fun v H' d μ' a b c e => ⟨d, μ', a, b, c, e⟩)
  refine wpAny_Delete (wpAny_deleteEach_cons (wpAny_delete_Subscript (thn h1 fun u s1 ⟨x, H1, I1, rx, d, μ1, st1, m1, v1, q1⟩ => ?_)))
  have h2 := hi.run pins s1 σ H1 (fun v H2 => ∃ e μ2, Step (MD μ1) H1 (MD μ2) H2 ∧ MH μ2 H2 ∧ VD (MD μ2) H2 e v ∧ DelD μ2 d e fun μ3 => DD.nx ρ μ3) I1 (up_mk (rs.step st1) m1 q1 fun v H' d μ' a b c e => ⟨d, μ', a, b, c, e⟩)
  refine thn h2 fun iv s2 ⟨y, H2, I2, ry, e, μ2, st2, m2, v2, q2⟩ => ?_
  unfold DelD at q2
  split at q2
  · rename_i p _
    rw [show x = V.ref p from v1] at rx
    obtain rfl : u = Value.ref p := rx
    have st := st1.trans st2
    rcases q2 with ⟨kvs, k, h4, h5, h6, h7⟩ | ⟨kvs, ks, k, h4, rfl, h5, h6, h7⟩
    · obtain ⟨ks, e1, kd⟩ := m2 p _ h4
      rw [keyD_v h5 v2] at ry
      have sw : Step (MD μ2) H2 (MD (put μ2 p (.dK (dropD kvs k)))) (upd H2 p (.dK (dropK ks k))) := .write ⟨_, h4⟩
      refine d_delItem I2 e1 ry ?_ fun s3 I3 => wpAny_deleteEach_nil ⟨σ, _, I3, l.nx σ _ ρ _ (st.trans sw) (rs.step (st.trans sw)) (m2.write ⟨_, h4⟩ ⟨_, upd_same, KD.step sw (kd.drop k)⟩) h7⟩
      cases ez : atD kvs k with
      | none => rw [ez] at h6; cases h6
      | some z => obtain ⟨v, ev, _⟩ := (kd.at k).1 z ez; rw [ev]; rfl
    · obtain ⟨ks', e1, kd⟩ := m2 p _ h4
      obtain ⟨q, xs, rfl, f, gg⟩ := v2
      have ex := keysD_v h5 gg
      subst ex
      obtain rfl : iv = Value.ref q := ry
      have sw : Step (MD μ2) H2 (MD (put μ2 p (.dT (dropD kvs k)))) (upd H2 p (.dT (dropK ks' k))) := .write ⟨_, h4⟩
      refine d_delItemT hu I2 e1 f.2 ?_ fun s3 I3 => wpAny_deleteEach_nil ⟨σ, _, I3, l.nx σ _ ρ _ (st.trans sw) (rs.step (st.trans sw)) (m2.write ⟨_, h4⟩ ⟨_, upd_same, KD.step sw (kd.drop k)⟩) h7⟩
      cases ez : atD kvs k with
      | none => rw [ez] at h6; cases h6
      | some z => obtain ⟨v, ev, _⟩ := (kd.at k).1 z ez; rw [ev]; rfl
  · exact q2.elim⟩
/-- {} -/
def wDNewK : WE := fun _ μ Q => ∀ p, μ p = none → Q (.at p) (put μ p (.dK []))
def wDNewT : WE := fun _ μ Q => ∀ p, μ p = none → Q (.at p) (put μ p (.dT []))
theorem je_dnewK : JE B X (.Dict [] [] pos) wDNewK := PE.of pe_dnewK fun σ H Q ⟨ρ, μ, QD, rs, m, h, k⟩ p hp => k _ _ ⟨.at p, put μ p (.dK []), .newM hp, m.newM (x := .dK []) hp ⟨[], upd_same, .nil⟩, rfl, h p (m.free hp)⟩
theorem je_dnewT : JE B X (.Dict [] [] pos) wDNewT := PE.of pe_dnewT fun σ H Q ⟨ρ, μ, QD, rs, m, h, k⟩ p hp => k _ _ ⟨.at p, put μ p (.dT []), .newM hp, m.newM (x := .dT []) hp ⟨[], upd_same, .nil⟩, rfl, h p (m.free hp)⟩
/-- a dict is locked while it is walked: within an expression, a statement -/
def wLockE (w : WE) : WE := fun ρ μ Q => ∃ p kvs, μ p = some (.dK kvs) ∧ ∀ o ks, w ρ (put μ p (.fz o ks kvs)) fun d μ' => μ' p = some (.fz o ks kvs) ∧ Q d (put μ' p (.dK kvs))
theorem je_lock {w : WE} (h : JE B X x w) : JE B X x (wLockE w) := PE.of (pe_lock h) fun σ H Q ⟨ρ, μ, QD, rs, m, ⟨p, kvs, hp, h⟩, k⟩ => by
  obtain ⟨ks, e1, kd⟩ := m p _ hp
  refine ⟨p, .dK ks, e1, True.intro, fun od => ?_⟩
  have st : Step (MD μ) H (MD (put μ p (.fz od ks kvs))) (upd H p (.frz od (.dK ks))) := .write ⟨_, hp⟩
  refine up_mk (rs.step st) (m.write ⟨_, hp⟩ ⟨upd_same, KD.step st kd⟩) (h od ks) fun v H1 d μ1 s1 m1 v1 ⟨h1, q1⟩ => ?_
  obtain ⟨e2, kd2⟩ := m1 p _ h1
  have st2 : Step (MD μ1) H1 (MD (put μ1 p (.dK kvs))) (upd H1 p (.dK ks)) := .write ⟨_, h1⟩
  exact ⟨e2, k _ _ ⟨d, _, (st.trans s1).trans st2, m1.write ⟨_, h1⟩ ⟨_, upd_same, KD.step st2 kd2⟩, VD.step st2 _ _ v1, q1⟩⟩
/-- d.items() walked, under the lock -/
def wItems (w : WE) : WI := fun ρ μ Q => w ρ μ fun d μ1 => ∃ p o ks kvs, d = .at p ∧ μ1 p = some (.fz o ks kvs) ∧ Q (kvs.map fun q => .tup [Dk q.1, q.2]) (fun μ => μ p = some (.fz o ks kvs)) μ1
theorem ji_items {w : WE} {elts : List Expr} {kk : Nat} {tpos apos cpos : Pos} (he : JE B X x w) (hbase : attributeBase x "items" X.env (eval x X.env) = eval x X.env := by rfl) (hline : (apos.endLine == cpos.line) = true := by rfl) : JI B X (.Tuple elts kk tpos) (.Call (.Attribute x "items" apos) [] [] cpos) (wItems w) :=
  PI.of (pi_items he hbase hline) fun σ H R ⟨ρ, μ, QD, rs, m, h, k⟩ => up_mk rs m h fun v H1 d μ1 s1 m1 v1 ⟨p, o, ks, kvs, ed, hp, h1⟩ => by
    subst ed
    obtain ⟨e1, kd⟩ := m1 p _ hp
    refine ⟨p, o, ks, v1, e1, k _ H1 _ (fun μ => μ p = some (.fz o ks kvs)) μ1 s1 m1 ⟨fun i H2 hi ⟨μ2, st, mh, kp⟩ => ?_, fun H2 ⟨μ2, st, mh, kp⟩ => ?_, fun i H2 x H' hi _ ⟨T, ky, v, e2, ex, hT, e3⟩ μ2 st mh kp => ?_⟩ h1⟩
    · obtain ⟨e2, kd2⟩ := mh p _ kp
      exact ⟨e2, by rw [← kd.length]; simpa using hi⟩
    · obtain ⟨e2, kd2⟩ := mh p _ kp
      exact ⟨e2, by rw [← kd.length]; simp⟩
    · obtain ⟨_, kd2⟩ := mh p _ kp
      subst ex e3
      have hi' : i < kvs.length := by simpa using hi
      obtain ⟨v', e4, hv⟩ := kd2.get (i := i) (k := kvs[i].1) (d := kvs[i].2) (List.getElem?_eq_getElem hi')
      rw [e2] at e4
      cases e4
      have st2 : Step (MD μ2) H2 (MD μ2) (upd H2 T (.tup [kV kvs[i].1, v])) := .new hT
      exact ⟨.tup [Dk kvs[i].1, kvs[i].2], by rw [List.getElem?_map, List.getElem?_eq_getElem hi']; rfl, st2, mh.newF hT, ⟨T, _, rfl, ⟨fun ⟨u, q⟩ => (by rw [mh.free hT] at q; cases q), upd_same⟩, _, _, rfl, Dk_v _, _, _, rfl, VD.step st2 _ _ hv, rfl⟩⟩
end
end Dl
namespace Dl
open PySem PySem.Spec PyProof.Rows L2
variable {B : Bs}
/-! ### built-ins called by name -/
def wFN (r : FN) (a : WA) : WE := fun ρ μ Q => a ρ μ fun ds μ1 => r ds μ1 Q
section
variable {X : Cx} {x : Str} {p pos : Pos} {e : Expr} {es : List Expr} {a : WA} {id T : String} {r : FN}
theorem up_cb {σ : L2.St} {H : Hp} {Q : VK} (h : up B (wFN r a) σ H Q) : tCB (upFN r) (upA B a) σ H Q := by
  obtain ⟨ρ, μ, QD, rs, m, h, k⟩ := h
  exact ⟨ρ, μ, _, rs, m, h, fun vs H1 ds μ1 s1 m1 v1 h1 => ⟨ds, μ1, QD, v1, m1, h1, fun v H' q => k v H' (q.trans s1)⟩⟩
theorem je_cb (hc : CallR X (.builtin id) (upFN r)) (hm : X.mg x = none) (ha : JA B X (e :: es) a) (hv : bootBuiltins x = some (.builtin id) := by decide +kernel) (hg : Gl X x := by rfl) (hn : x ≠ "__name__" := by decide) (hdb : (x == ("__debug__" : Str)) = false := by decide)
    (he : starEach (e :: es) X.env = (false, eval e X.env) :: starEach es X.env := by rfl) (hpl : (backTo pos (starEach es X.env)).any (·.1) = false := by rfl) : JE B X (.Call (.Name x p) (e :: es) [] pos) (wFN r a) := PE.of (pe_callB hc hg hm hv ha hn hdb he hpl) fun _ _ _ h => up_cb h
theorem je_cty (hc : CallR X (.type T) (upFN r)) (hm : X.mg x = none) (ha : JA B X (e :: es) a) (hv : bootBuiltins x = some (.type T) := by decide +kernel) (hg : Gl X x := by rfl) (hn : x ≠ "__name__" := by decide) (hdb : (x == ("__debug__" : Str)) = false := by decide)
    (he : starEach (e :: es) X.env = (false, eval e X.env) :: starEach es X.env := by rfl) (hpl : (backTo pos (starEach es X.env)).any (·.1) = false := by rfl) : JE B X (.Call (.Name x p) (e :: es) [] pos) (wFN r a) := PE.of (pe_callTy hc hg hm hv ha hn hdb he hpl) fun _ _ _ h => up_cb h
end
section
variable {X : Cx}
/-! ### len, isinstance, abs, max, min, sum, all -/
def fLen : FN := fun ds μ Q => match ds with
  | [.str z] => z.length ≤ sizeLine ∧ Q (.int z.length) μ
  | [d] => ∃ xs, Sq μ d xs ∧ Q (.int xs.length) μ
  | _ => False
theorem cd_len : CallR X (.builtin "len") (upFN fLen) := CallR.of (call_len_str.or call_len_seq) fun xs H Q ⟨ds, μ, QD, v, m, h, k⟩ => by
  unfold fLen at h
  split at h
  · rename_i z
    obtain ⟨v1, vs, rfl, r1, e⟩ := v
    rw [show vs = [] from e, show v1 = V.str z from r1]
    exact .inl ⟨z, rfl, h.1, k _ _ (lft_mk (d := .int _) m rfl h.2)⟩
  · rename_i d _
    obtain ⟨v1, vs, rfl, r1, e⟩ := v
    rw [show vs = [] from e]
    obtain ⟨xs, h1, h2⟩ := h
    obtain ⟨a, ys, rfl, h3, h4⟩ := h1.to X.K m r1
    refine .inr ⟨a, ys, rfl, h3, ?_⟩
    rw [← h4.length]
    exact k _ _ (lft_mk (d := .int _) m rfl h2)
  · exact h.elim
/-- what built-in type the data is of -/
def kindD (μ : Mu) : D → String → Prop
  | .non, n => n = "NoneType"
  | .bl _, n => n = "bool"
  | .int _, n => n = "int"
  | .str _, n => n = "str"
  | .lst _, n => n = "list"
  | .tup _, n => n = "tuple"
  | .at a, n => ((∃ k, μ a = some (.lst k)) ∧ n = "list") ∨ ((∃ k, μ a = some (.dK k)) ∧ n = "dict") ∨ ((∃ k, μ a = some (.dT k)) ∧ n = "dict")
  | .ty _, _ => False
theorem kindD.to {K : Frg} {μ : Mu} {H : Hp} {d : D} {n : String} {v : V} (m : MH μ H) (r : VD (MD μ) H d v) (h : kindD μ d n) : TyOf K H v (.type n) := by
  cases d with
  | non => rw [show v = V.non from r, show n = "NoneType" from h]; exact .non
  | bl b => rw [show v = V.bl b from r, show n = "bool" from h]; exact .bl b
  | int b => rw [show v = V.int b from r, show n = "int" from h]; exact .int b
  | str b => rw [show v = V.str b from r, show n = "str" from h]; exact .str b
  | lst b => obtain ⟨a, xs, rfl, f, _⟩ := r; rw [show n = "list" from h]; exact .lst f.2
  | tup b => obtain ⟨a, xs, rfl, f, _⟩ := r; rw [show n = "tuple" from h]; exact .tup f.2
  | «at» a =>
    rw [show v = V.ref a from r]
    rcases h with ⟨⟨k, e⟩, rfl⟩ | ⟨⟨k, e⟩, rfl⟩ | ⟨⟨k, e⟩, rfl⟩
    · obtain ⟨xs, e, _⟩ := m a _ e; exact .lst e
    · obtain ⟨xs, e, _⟩ := m a _ e; exact .dK e
    · obtain ⟨xs, e, _⟩ := m a _ e; exact .dT e
  | ty _ => exact h.elim
def fIsi : FN := fun ds μ Q => match ds with
  | [d, .ty c] => ∃ n b, kindD μ d n ∧ kitB n c = some b ∧ Q (.bl b) μ
  | _ => False
theorem cd_isi : CallR X (.builtin "isinstance") (upFN fIsi) := CallR.of call_isi fun xs H Q ⟨ds, μ, QD, v, m, h, k⟩ => by
  unfold fIsi at h
  split at h
  · rename_i d c
    obtain ⟨v1, vs, rfl, r1, v2, ws, rfl, r2, e⟩ := v
    rw [show ws = [] from e, show v2 = V.ty c from r2]
    obtain ⟨n, b, h1, h2, h3⟩ := h
    exact ⟨v1, .ty c, .type n, .type c, b, rfl, .ty c, .base (h1.to m r1), kit_ty h2, k _ _ (lft_mk (d := .bl _) m rfl h3)⟩
  · exact h.elim
def fAbs : FN := fun ds μ Q => match ds with
  | [.int i] => Q (.int (if i < 0 then -i else i)) μ
  | _ => False
theorem cd_abs : CallR X (.builtin "abs") (upFN fAbs) := CallR.of call_abs fun xs H Q ⟨ds, μ, QD, v, m, h, k⟩ => by
  unfold fAbs at h
  split at h
  · rename_i i
    obtain ⟨v1, vs, rfl, r1, e⟩ := v
    rw [show vs = [] from e, show v1 = V.int i from r1]
    exact ⟨i, rfl, k _ _ (lft_mk (d := .int _) m rfl h)⟩
  · exact h.elim
/-- ints out of two ints -/
def fII (g : Int → Int → Int) : FN := fun ds μ Q => match ds with
  | [.int i, .int j] => Q (.int (g i j)) μ
  | _ => False
theorem cd_max2 (hc : X.calm = true) : CallR X (.builtin "max") (upFN (fII fun i j => if j > i then j else i)) := CallR.of (call_max2 hc) fun xs H Q ⟨ds, μ, QD, v, m, h, k⟩ => by
  unfold fII at h
  split at h
  · rename_i i j
    obtain ⟨v1, vs, rfl, r1, v2, ws, rfl, r2, e⟩ := v
    rw [show ws = [] from e, show v2 = V.int j from r2, show v1 = V.int i from r1]
    exact ⟨i, j, rfl, k _ _ (lft_mk (d := .int _) m rfl h)⟩
  · exact h.elim
theorem cd_min2 (hc : X.calm = true) : CallR X (.builtin "min") (upFN (fII fun i j => if j < i then j else i)) := CallR.of (call_min2 hc) fun xs H Q ⟨ds, μ, QD, v, m, h, k⟩ => by
  unfold fII at h
  split at h
  · rename_i i j
    obtain ⟨v1, vs, rfl, r1, v2, ws, rfl, r2, e⟩ := v
    rw [show ws = [] from e, show v2 = V.int j from r2, show v1 = V.int i from r1]
    exact ⟨i, j, rfl, k _ _ (lft_mk (d := .int _) m rfl h)⟩
  · exact h.elim
theorem VDs.ints {M : Ms} {H : Hp} : ∀ {ns : List Int} {vs : List V}, VDs M H (ns.map .int) vs → vs = ns.map .int
  | [], _, h => h
  | n :: ns, _, ⟨v, vs, e, r, t⟩ => by rw [e, show v = V.int n from r, VDs.ints t]; rfl
def fSum : FN := fun ds μ Q => ∃ (d : D) (ns : List Int), ds = [d] ∧ Lr μ d (ns.map .int) ∧ Q (.int ns.sum) μ
theorem cd_sum (hc : X.calm = true) : CallR X (.builtin "sum") (upFN fSum) := CallR.of (cr_sum hc) fun xs H Q ⟨ds, μ, QD, v, m, ⟨d, ns, e, h1, h2⟩, k⟩ => by
  subst e
  obtain ⟨v1, vs, rfl, r1, e⟩ := v
  rw [show vs = [] from e]
  obtain ⟨a, ys, rfl, h3, h4⟩ := h1.to m r1
  rw [h4.ints] at h3
  exact ⟨a, ns, rfl, .inl h3, k _ _ (lft_mk (d := .int _) m rfl h2)⟩
/-- divmod by a positive number -/
def fDivmod : FN := fun ds μ Q => match ds with
  | [.int i, .int j] => CDivW i j ∧ Q (.tup [.int (i / j), .int (i % j)]) μ
  | _ => False
theorem cd_divmod : CallR X (.builtin "divmod") (upFN fDivmod) := CallR.of call_divmodW fun xs H Q ⟨ds, μ, QD, v, m, h, k⟩ => by
  unfold fDivmod at h
  split at h
  · rename_i i j
    obtain ⟨v1, vs, rfl, r1, v2, ws, rfl, r2, e⟩ := v
    rw [show ws = [] from e, show v2 = V.int j from r2, show v1 = V.int i from r1]
    exact ⟨i, j, rfl, ⟨h.1.1, PyProof.noPylong_of_log2 h.1.2⟩, fun p hp => k _ _ (lft_tup m (ds := [.int (i / j), .int (i % j)]) ⟨_, _, rfl, rfl, _, _, rfl, rfl, rfl⟩ hp h.2)⟩
  · exact h.elim
/-- list(x), x a list or tuple -/
def fListOf (mm : Bool) : FN := fun ds μ Q => ∃ d xs, ds = [d] ∧ Sq μ d xs ∧ New mm xs μ Q
theorem cd_list (mm : Bool) : CallR X (.type "list") (upFN (fListOf mm)) := CallR.of call_list_of fun xs H Q ⟨ds, μ, QD, v, m, ⟨d, ns, e, h1, h2⟩, k⟩ => by
  subst e
  obtain ⟨v1, vs, rfl, r1, e⟩ := v
  rw [show vs = [] from e]
  obtain ⟨a, ys, rfl, h3, h4⟩ := h1.to X.K m r1
  exact ⟨a, ys, rfl, h3, fun l hl => k _ _ (lft_new m h4 hl h2)⟩
/-! ### repr -/
def fRepr : FN := fun ds μ Q => ∃ d p, ds = [d] ∧ Rs μ d p ∧ p.showable = true ∧ p.depth ≤ 60 ∧ p.shown.length ≤ sizeLine ∧ Q (.str p.shown) μ
theorem hasDict_plain : ∀ (p : PyData), p.plain = true → p.hasDict = false := fun p h => by
  have key : ∀ n (p : PyData), sizeOf p ≤ n → p.plain = true → p.hasDict = false := by
    intro n
    induction n with
    | zero => intro p hp; cases p <;> simp at hp
    | succ n ih =>
      intro p hp h
      have all : ∀ xs : List PyData, sizeOf xs ≤ n → PyData.plainAll xs = true → PyData.hasDictAll xs = false := by
        intro xs
        induction xs with
        | nil => intro _ _; rfl
        | cons x xs ihx =>
          intro hs hq
          simp only [PyData.plainAll, Bool.and_eq_true] at hq
          simp only [List.cons.sizeOf_spec] at hs
          simp only [PyData.hasDictAll, ih x (by omega) hq.1, ihx (by omega) hq.2, Bool.or_self]
      cases p with
      | list xs =>
        simp only [PyData.plain] at h
        simp only [PyData.list.sizeOf_spec] at hp
        simp only [PyData.hasDict]
        exact all xs (by omega) h
      | tuple xs =>
        simp only [PyData.plain] at h
        simp only [PyData.tuple.sizeOf_spec] at hp
        simp only [PyData.hasDict]
        exact all xs (by omega) h
      | dict _ => cases h
      | _ => rfl
  exact key _ p (Nat.le_refl _) h
theorem cd_repr (hg : X.A.guards = some []) (hu : X.A.units + 65 < cLine) : CallR X (.builtin "repr") (upFN fRepr) := fun pins s σ H xs us Q I rx ⟨ds, μ, QD, v, m, ⟨d, p, e, r, sh, dp, sz, hq⟩, k⟩ => by
  subst e
  obtain ⟨v1, vs, rfl, r1, e⟩ := v
  rw [show vs = [] from e] at rx
  obtain ⟨u, rfl, ru⟩ := vals1 rx
  have fin : ∀ (h' : Heap) (tk : Nat) (t : Tok), (∀ b o, s.heap.get? b = some o → h'.get? b = some o) → EP X pins σ Q (.str p.shown t) { s with heap := h', toks := tk } := fun h' tk t hk => ⟨.str p.shown, H, I.kept (t' := tk) hk, ⟨t, rfl⟩, k _ _ (lft_mk (d := .str _) m rfl hq)⟩
  cases p with
  | none =>
    cases r
    rw [show v1 = V.non from r1] at ru
    rw [show u = Value.none from ru]
    exact PySem.P.repr_of_none (fin s.heap _ _ fun _ _ q => q)
  | bool b =>
    cases r
    rw [show v1 = V.bl b from r1] at ru
    rw [show u = Value.bool b from ru]
    have q := fin s.heap (s.toks + 1) s.toks fun _ _ q => q
    exact PySem.P.repr_of_bool (by simpa only [PyData.shown] using q)
  | int i =>
    cases r
    rw [show v1 = V.int i from r1] at ru
    obtain ⟨t, rfl⟩ := ru
    exact PySem.P.repr_of_int (by simpa [PyData.showable] using sh) (fin s.heap _ _ fun _ _ q => q)
  | str x =>
    cases r
    rw [show v1 = V.str x from r1] at ru
    obtain ⟨t, rfl⟩ := ru
    have q := fin s.heap (s.toks + 1) s.toks fun _ _ q => q
    exact PySem.P.repr_of_str (by simpa only [PyData.shown] using q) (hsz := by simpa only [PyData.shown] using sz)
  | list ps =>
    obtain ⟨as, hr⟩ := Dp.reads I (.list ps) v1 u (Rs.dp m _ d v1 r r1) ru
    have hp := hasDict_plain _ (r.plain _ d)
    cases hr with
    | list a1 a2 a3 a4 => exact repr_of_reads' (.list a1 a2 a3 a4) sh (fun z => by rw [hp] at z; cases z) hg (by omega) (fun _ _ q => q) (fun h' t tk hk => fin h' tk t hk) sz
  | tuple ps =>
    obtain ⟨as, hr⟩ := Dp.reads I (.tuple ps) v1 u (Rs.dp m _ d v1 r r1) ru
    have hp := hasDict_plain _ (r.plain _ d)
    cases hr with
    | tuple a1 a2 a3 a4 => exact repr_of_reads' (.tuple a1 a2 a3 a4) sh (fun z => by rw [hp] at z; cases z) hg (by omega) (fun _ _ q => q) (fun h' t tk hk => fin h' tk t hk) sz
  | dict _ => cases r
end
end Dl
namespace Dl
open PySem PySem.Spec PyProof.Rows L2
variable {B : Bs}
/-! ### methods of lists -/
/-- o.m(..), o a list -/
def wML (r : D → FN) (o : WE) (a : WA) : WE := fun ρ μ Q => o ρ μ fun d μ1 => (∃ zs, Ls μ1 d zs) ∧ a ρ μ1 fun ds μ2 => r d ds μ2 Q
section
variable {X : Cx} {o e : Expr} {es : List Expr} {wo : WE} {a : WA} {name : Str} {apos cpos : Pos} {id : String} {r : D → FN}
theorem Ls.ty {K : Frg} {μ : Mu} {H : Hp} {d : D} {v : V} (m : MH μ H) (hv : VD (MD μ) H d v) (h : ∃ zs, Ls μ d zs) : tyV K "list" v H := by
  obtain ⟨zs, h⟩ := h
  obtain ⟨p, xs, rfl, e, _⟩ := h.to m hv
  exact .inl ⟨rfl, xs, SqL.of e⟩
theorem je_ml (slot : Slot "list" name id) (hty : typeOf (.builtin id) = pure (.type "method_descriptor")) (hm : MtR X id (upFM r)) (ho : JE B X o wo) (ha : JA B X (e :: es) a)
    (hbase : attributeBase o name X.env (eval o X.env) = eval o X.env := by rfl)
    (hfew : ((backTo cpos (starEach (e :: es) X.env)).all (fun x => !x.1) && (backToKw cpos (keywordEach [] X.env)).all (fun x => x.1.isSome)
      && decide ((e :: es).length + ([] : List Keyword).length + (if ([] : List Keyword).isEmpty then 0 else 1) < 30)) = true := by rfl)
    (hline : (apos.endLine == cpos.line) = true := by rfl) (hs : starEach (e :: es) X.env = (false, eval e X.env) :: starEach es X.env := by rfl) (hplain : (backTo cpos (starEach es X.env)).any (·.1) = false := by rfl) :
    JE B X (.Call (.Attribute o name apos) (e :: es) [] cpos) (wML r wo a) := PE.of (pe_bm PySem.F.plainAttrs_list slot hty hm ho ha hbase hfew hline hs hplain) fun σ H Q ⟨ρ, μ, QD, rs, m, h, k⟩ =>
  up_mk rs m h fun v H1 d μ1 s1 m1 v1 h1 => ⟨Ls.ty m1 v1 h1.1, ρ, μ1, _, rs.step s1, m1, h1.2, fun vs H2 ds μ2 s2 m2 v2 h2 => ⟨d, ds, μ2, QD, VD.step s2 _ _ v1, v2, m2, h2, fun z H3 q => k z H3 (q.trans (s1.trans s2))⟩⟩
/-- the list at l becomes ys -/
theorem lft_set {μ : Mu} {H : Hp} {Q : DQ} {l : Addr} {ds : List D} {xs : List V} {d : D} {v : V} {zs : List D} (m : MH μ H) (hl : μ l = some (.lst zs)) (hv : VDs (MD μ) H ds xs) (hd : VD (MD μ) H d v) (q : Q d (put μ l (.lst ds))) : lft μ H Q v (upd H l (.lst xs)) := by
  have st : Step (MD μ) H (MD (put μ l (.lst ds))) (upd H l (.lst xs)) := .write ⟨_, hl⟩
  exact ⟨d, _, st, m.write ⟨_, hl⟩ ⟨_, upd_same, VDs.step st _ _ hv⟩, VD.step st _ _ hd, q⟩
def fAppend : D → FN := fun d ds μ Q => ∃ l xs y, d = .at l ∧ ds = [y] ∧ μ l = some (.lst xs) ∧ xs.length ≤ 1000000 ∧ Q .non (put μ l (.lst (xs ++ [y])))
theorem md_append : MtR X "list.append" (upFM fAppend) := MtR.of mt_append fun x vs H Q ⟨d, ds, μ, QD, v1, v2, m, ⟨l, xs, y, e1, e2, h1, h2, h3⟩, k⟩ => by
  subst e1 e2
  obtain ⟨u, us, rfl, r1, e⟩ := v2
  rw [show us = [] from e]
  obtain ⟨zs, e3, g⟩ := m l _ h1
  exact ⟨l, zs, u, v1, rfl, e3, by rw [← g.length, sizeLine_eq]; omega, k _ _ (lft_set m h1 (g.append (es := [y]) ⟨u, [], rfl, r1, rfl⟩) (show VD _ _ .non .non from rfl) h3)⟩
def fExtend : D → FN := fun d ds μ Q => ∃ l xs e ys, d = .at l ∧ ds = [e] ∧ μ l = some (.lst xs) ∧ Ls μ e ys ∧ xs.length + ys.length ≤ 1000000 ∧ Q .non (put μ l (.lst (xs ++ ys)))
theorem md_extend : MtR X "list.extend" (upFM fExtend) := MtR.of mt_extend fun x vs H Q ⟨d, ds, μ, QD, v1, v2, m, ⟨l, xs, e, ys, e1, e2, h1, h2, h3, h4⟩, k⟩ => by
  subst e1 e2
  obtain ⟨u, us, rfl, r1, e0⟩ := v2
  rw [show us = [] from e0]
  obtain ⟨zs, e3, g⟩ := m l _ h1
  obtain ⟨b, ws, rfl, e4, g4⟩ := h2.to m r1
  exact ⟨l, b, zs, ws, v1, rfl, e3, e4, by rw [← g.length, ← g4.length, sizeLine_eq]; omega, k _ _ (lft_set m h1 (g.append g4) (show VD _ _ .non .non from rfl) h4)⟩
def fReverse : D → FN := fun d ds μ Q => ∃ l xs, d = .at l ∧ ds = [] ∧ μ l = some (.lst xs) ∧ Q .non (put μ l (.lst xs.reverse))
/-- xs.pop(i) -/
def fPopAt : D → FN := fun d ds μ Q => ∃ l xs i k y, d = .at l ∧ ds = [.int i] ∧ μ l = some (.lst xs) ∧ 0 ≤ i ∧ i = ((k : Nat) : Int) ∧ i < 2 ^ 62 ∧ xs[k]? = some y ∧ Q y (put μ l (.lst (xs.eraseIdx k)))
theorem VDs.eraseIdx {M : Ms} {H : Hp} : ∀ {ds : List D} {vs : List V} (i : Nat), VDs M H ds vs → VDs M H (ds.eraseIdx i) (vs.eraseIdx i)
  | [], _, _, h => by rw [show _ = [] from h]; rfl
  | d :: ds, _, 0, ⟨v, vs, e, r, t⟩ => by subst e; exact t
  | d :: ds, _, i + 1, ⟨v, vs, e, r, t⟩ => by subst e; exact ⟨v, _, rfl, r, VDs.eraseIdx i t⟩
theorem md_popAt : MtR X "list.pop" (upFM fPopAt) := MtR.of mt_popAt fun x vs H Q ⟨d, ds, μ, QD, v1, v2, m, ⟨l, xs, i, k, y, e1, e2, h1, h2, h3, h4, h5, h6⟩, kk⟩ => by
  subst e1 e2
  obtain ⟨u, us, rfl, r1, e0⟩ := v2
  rw [show us = [] from e0, show u = V.int i from r1]
  obtain ⟨zs, e3, g⟩ := m l _ h1
  obtain ⟨w, e5, hw⟩ := g.get h5
  have hk : k < zs.length := (List.getElem?_eq_some_iff.mp e5).1
  refine ⟨l, zs, i, k, w, v1, rfl, e3, by omega, by omega, ?_, e5, kk _ _ (lft_set m h1 (g.eraseIdx k) hw h6)⟩
  have q : atI zs i = some w := by rw [h3]; exact atI_nat e5
  obtain ⟨j, hj, hj2, _⟩ := atI_get q
  rw [hj]
  unfold seqIndex? at hj
  have : j = k := by
    split at hj <;> simp at hj <;> omega
  rw [this]
/-! ### slices of lists -/
abbrev WO := Rho → Mu → (Option Int → Mu → Prop) → Prop
theorem PO.of {e : Option Expr} {t t' : TO} (h : PO X e t) (g : ∀ σ H Q, t' σ H Q → t σ H Q) : PO X e t' := ⟨fun pins s σ H Q I q => h.run pins s σ H Q I (g σ H Q q)⟩
def wNoPart : WO := fun _ μ Q => Q none μ
def wPart (a : WE) : WO := fun ρ μ Q => a ρ μ fun d μ1 => match d with
  | .int i => Q (some i) μ1
  | _ => False
def cutD (xs : List D) (lo hi : Option Int) : List D := (xs.drop (HT.sIx xs.length 0 lo)).take (HT.sIx xs.length xs.length hi - HT.sIx xs.length 0 lo)
/-- xs[lo:hi], a new list -/
def wSl (mm : Bool) (o : WE) (lo hi : WO) : WE := fun ρ μ Q => o ρ μ fun d μ1 => lo ρ μ1 fun l μ2 => hi ρ μ2 fun h μ3 => ∃ xs, Lr μ3 d xs ∧ New mm (cutD xs l h) μ3 Q
/-- list(range(n)) -/
def wLstRg (mm : Bool) (a : WE) : WE := fun ρ μ Q => a ρ μ fun d μ1 => match d with
  | .int n => 0 ≤ n ∧ n ≤ 1000000 ∧ New mm ((List.range n.toNat).map fun i : Nat => .int i) μ1 Q
  | _ => False
/-! ### zip, enumerate walked -/
def wZip (a : WA) : WI := fun ρ μ Q => a ρ μ fun vs μ1 => ∃ d e xs ys, vs = [d, e] ∧ Lr μ1 d xs ∧ Lr μ1 e ys ∧ xs.length = ys.length ∧ Q (List.zipWith (fun x y => .tup [x, y]) xs ys) (fun μ => Lr μ d xs ∧ Lr μ e ys) μ1
end
/-! ### sorted -/
mutual
/-- the data as it reads, where nothing may change in it -/
def pyD : D → PyData
  | .non => .none
  | .bl b => .bool b
  | .int i => .int i
  | .str x => .str x
  | .lst xs => .list (pyDs xs)
  | .tup xs => .tuple (pyDs xs)
  | .ty _ => .none
  | .at _ => .none
def pyDs : List D → List PyData
  | [] => []
  | x :: xs => pyD x :: pyDs xs
end
/-- sorted(xs) of a list -/
def fSorted (mm : Bool) : FN := fun ds μ Q => ∃ d xs, ds = [d] ∧ Lr μ d xs ∧ (∀ x ∈ xs, Rs μ x (pyD x) ∧ (pyD x).depth ≤ 50) ∧ PySem.W.AllAlike (xs.map pyD) ∧ PySem.W.Sortable (xs.map pyD) ∧ xs.length ≤ 1000000 ∧ New mm (xs.mergeSort (PySem.W.dataLe false pyD)) μ Q
section
variable {X : Cx}
theorem each_vals {M : Ms} {H : Hp} : ∀ {out : List Value} {ys : List D}, PySem.W.EachIs (fun u d => ∃ v, RelV v u ∧ VD M H d v) out ys → ∃ vs, Vals vs out ∧ VDs M H ys vs
  | _, _, .nil => ⟨[], .nil, rfl⟩
  | _, _, .cons ⟨v, r, h⟩ t => by
    obtain ⟨vs, r2, h2⟩ := each_vals t
    exact ⟨v :: vs, .cons r r2, v, vs, rfl, h, h2⟩
theorem vals_each {M : Ms} {H : Hp} : ∀ {ds : List D} {vs : List V} {us : List Value}, VDs M H ds vs → Vals vs us → PySem.W.EachIs (fun u d => ∃ v, RelV v u ∧ VD M H d v) us ds
  | [], _, _, h, r => by
    rw [show _ = [] from h] at r
    cases r
    exact .nil
  | d :: ds, _, _, ⟨v, vs, e, h, t⟩, r => by
    subst e
    cases r with
    | cons r1 r2 => exact .cons ⟨v, r1, h⟩ (vals_each t r2)
theorem each_reads {pins : List (Addr × Obj)} {σ : L2.St} {H : Hp} {s : Shared} {μ : Mu} (I : Inv X pins σ H s) (m : MH μ H) : ∀ {ds : List D} {vs : List V} {us : List Value}, (∀ x ∈ ds, Rs μ x (pyD x)) → VDs (MD μ) H ds vs → Vals vs us → PySem.W.EachIs (fun u d => ∃ as, Reads s.heap u (pyD d) as) us ds
  | [], _, _, _, h, r => by
    rw [show _ = [] from h] at r
    cases r
    exact .nil
  | d :: ds, _, _, hr, ⟨v, vs, e, h, t⟩, r => by
    subst e
    cases r with
    | cons r1 r2 => exact .cons (Dp.reads I (pyD d) v _ (Rs.dp m _ d v (hr d List.mem_cons_self) h) r1) (each_reads I m (fun x hx => hr x (List.mem_cons_of_mem _ hx)) t r2)
theorem cd_sorted (mm : Bool) (hu : X.A.units + 65 < cLine) : CallR X (.builtin "sorted") (upFN (fSorted mm)) := fun pins s σ H xs us Q I rx ⟨ds, μ, QD, v, m, ⟨d, ys, e, h1, h2, h3, h4, h5, h6⟩, k⟩ => by
  subst e
  obtain ⟨v1, vs, rfl, r1, e⟩ := v
  rw [show vs = [] from e] at rx
  obtain ⟨u, rfl, ru⟩ := vals1 rx
  obtain ⟨a, zs, rfl, e1, g⟩ := h1.to m r1
  rw [show u = Value.ref a from ru]
  obtain ⟨its, rv, pl, _⟩ := I.list (Or.inl e1)
  refine PySem.W.sorted_data pl.isList (vals_each g rv) (each_reads I m (fun x hx => (h2 x hx).1) g rv) h3 h4 (by rw [sizeLine_eq]; omega) (fun b hb => by have := (h2 b hb).2; omega) fun out hl he => ?_
  obtain ⟨ws, r2, g2⟩ := each_vals he
  obtain ⟨ep, he'⟩ := PyProof.Rows.sortedAll_at s.heap its out.toArray
  have hf := I.hok.fresh (Nat.le_succ s.heap.objs.size)
  refine ⟨.ref _, upd H (s.heap.objs.size + 1) (.lst ws), I.laid (t' := s.toks) (fun _ _ => PyProof.Rows.sortedAll_old) (Nat.le_succ _) ⟨?_, out, ep, r2, he'⟩, rfl, k _ _ (lft_new m g2 hf h6)⟩
  rw [← g2.length, List.length_mergeSort, sizeLine_eq]
  omega
/-- sorted(d) of a dict with tuple keys -/
def keyT (k : List Key) : D := .tup (k.map Dk)
def fSortedT (mm : Bool) : FN := fun ds μ Q => ∃ p kvs, ds = [.at p] ∧ μ p = some (.dT kvs) ∧ (∀ q ∈ kvs, q.1 ≠ []) ∧ PySem.W.AllAlike ((kvs.map fun q => keyT q.1).map pyD) ∧ kvs.length ≤ 1000000 ∧ New mm ((kvs.map fun q => keyT q.1).mergeSort (PySem.W.dataLe false pyD)) μ Q
theorem VDs.dk {M : Ms} {H : Hp} : ∀ ks : List Key, VDs M H (ks.map Dk) (ks.map kV)
  | [] => rfl
  | k :: ks => ⟨_, _, rfl, Dk_v k, VDs.dk ks⟩
theorem Rss.dk {μ : Mu} : ∀ ks : List Key, Rss μ (ks.map Dk) (pyDs (ks.map Dk))
  | [] => .nil
  | k :: ks => .cons (by cases k <;> first | exact .int _ | exact .str _) (Rss.dk ks)
theorem depth_dk : ∀ ks : List Key, PyData.depthAll (pyDs (ks.map Dk)) = 0
  | [] => by simp [pyDs, PyData.depthAll]
  | k :: ks => by
    show PyData.depthAll (pyD (Dk k) :: pyDs (ks.map Dk)) = 0
    rw [PyData.depthAll, depth_dk ks]
    cases k <;> simp [Dk, pyD, PyData.depth]
theorem reads_dk {h : Heap} : ∀ {ks : List Key} {us : List Value}, Vals (ks.map kV) us → ReadsAll h us (pyDs (ks.map Dk)) []
  | [], _, r => by cases r; exact .nil
  | k :: ks, _, r => by
    cases r with
    | cons r1 r2 =>
      have t := reads_dk (h := h) r2
      cases k with
      | inl i =>
        obtain ⟨t1, rfl⟩ := r1
        exact .cons (.int i t1) t
      | inr i =>
        obtain ⟨t1, rfl⟩ := r1
        exact .cons (.str i t1) t
theorem cd_sortedT (mm : Bool) (hc : X.calm = true) (hu : X.A.units + 65 < cLine) : CallR X (.builtin "sorted") (upFN (fSortedT mm)) := fun pins s σ H xs us Q I rx ⟨ds, μ, QD, v, m, ⟨p, kvs, e, h1, h2, h3, h4, h5⟩, k⟩ => by
  subst e
  obtain ⟨v1, vs, rfl, r1, e⟩ := v
  rw [show vs = [] from e] at rx
  obtain ⟨u, rfl, ru⟩ := vals1 rx
  rw [show v1 = V.ref p from r1] at ru
  rw [show u = Value.ref p from ru]
  obtain ⟨ks, e1, kd⟩ := m p _ h1
  obtain ⟨z, hs, xs, pr, o, es, ep, ho, hx, hdt, he, hn⟩ := (show ObjOk X.prog X.w H s.heap p (.dT ks) from I.hok p _ e1)
  have l1 : es.size = xs.length := size_of_entries he
  have l2 : ks.length = xs.length := Paired.length pr
  have l3 := kd.length
  refine Calls.call_function_entry PyProof.Rows.kind_sorted PyProof.Rows.plain_sorted PyProof.Rows.entry_sorted (PyProof.Rows.args_sorted1 _) ?_
  unfold Builtin.«sorted»
  refine wpAny_bind (m := checkCount "sorted" 1 1 _) (wpAny_pure ?_)
  refine wpAny_bind (PySem.W.kdu_collect (A := X.A.in1) (kdl_raw hs hx hdt) (I.ok.hd hc) ho (by rw [sizeLine_eq]; omega) fun h' tk acc hk hacc => ?_)
  have hl : acc.toList.length = xs.length := by rw [Array.length_toList, hacc.1]; exact l1
  refine wpAny_bind (wpAny_newList ?_ (by rw [hl, sizeLine_eq]; omega))
  -- the keys as values
  have at_ : ∀ (j : Nat) (u : Value), acc.toList[j]? = some u → ∃ q : List Key × D, kvs[j]? = some q ∧ ∃ b, u = .ref b ∧ H b = some (.tup (q.1.map kV)) := fun j u hj => by
    obtain ⟨en, hen, hv⟩ := hacc.2 j u (by rw [← Array.getElem?_toList]; exact hj)
    have qe := entry_at he j
    rw [hen] at qe
    cases hb : xs[j]? with
    | none =>
      rw [hb] at qe
      exact nomatch (show some en = none from qe)
    | some b =>
      rw [hb] at qe
      have e2 : en = entryOfKey (tupleKind (mixKind X.prog X.w)) b := Option.some.inj qe
      have hjl : j < kvs.length := by have := (List.getElem?_eq_some_iff.mp hb).1; omega
      have hjk : j < ks.length := by omega
      obtain ⟨w, ew, hw⟩ := kd.get (i := j) (k := kvs[j].1) (d := kvs[j].2) (List.getElem?_eq_getElem hjl)
      have pj : ks[j].1 = b.1 ∧ H b.2.1 = some (.tup (ks[j].1.map kV)) := by
        have get_ : ∀ {l : List (List Key × V)} {l' : List (List Key × Addr × Value)} {j : Nat} {x y}, KT H l l' → l[j]? = some x → l'[j]? = some y → x.1 = y.1 ∧ H y.2.1 = some (.tup (x.1.map kV)) := by
          intro l l' j x y hp
          induction hp generalizing j with
          | nil => intro q; simp at q
          | cons r t ih =>
            intro q1 q2
            cases j with
            | zero =>
              simp only [List.getElem?_cons_zero, Option.some.injEq] at q1 q2
              subst q1 q2
              exact ⟨r.1, r.2.1⟩
            | succ j => exact ih (by simpa using q1) (by simpa using q2)
        exact get_ pr (List.getElem?_eq_getElem hjk) hb
      have ek : ks[j] = (kvs[j].1, w) := by
        rw [List.getElem?_eq_getElem hjk] at ew
        exact Option.some.inj ew
      rw [ek] at pj
      exact ⟨kvs[j], List.getElem?_eq_getElem hjl, b.2.1, by rw [hv, e2]; rfl, pj.2⟩
  have I2 : Inv X pins σ H { s with heap := h', toks := tk } := I.kept (t' := tk) hk
  have each1 : ∀ (l : List Value) (qs : List (List Key × D)), l.length = qs.length → (∀ (j : Nat) (u : Value), l[j]? = some u → ∃ q : List Key × D, qs[j]? = some q ∧ ∃ b, u = .ref b ∧ H b = some (.tup (q.1.map kV))) →
      PySem.W.EachIs (fun u d => ∃ v, RelV v u ∧ VD (MD μ) H d v) l (qs.map fun q => keyT q.1) ∧ PySem.W.EachIs (fun v b => ∃ as, Reads (h'.push (seqObj "list" acc.toList.toArray 0)) v (pyD b) as ∧ h'.objs.size ∉ as) l (qs.map fun q => keyT q.1) := by
    intro l
    induction l with
    | nil =>
      intro qs hq _
      cases qs with
      | nil => exact ⟨.nil, .nil⟩
      | cons _ _ => cases hq
    | cons u l ih =>
      intro qs hq f
      cases qs with
      | nil => cases hq
      | cons q qs =>
        obtain ⟨q', eq', b, rfl, hb⟩ := f 0 u rfl
        cases (show some q = some q' from eq')
        obtain ⟨t1, t2⟩ := ih qs (Nat.succ.inj hq) fun j u hj => f (j + 1) u hj
        obtain ⟨_, its, rv, ob, g1, g2, n, g3⟩ := (show ObjOk X.prog X.w H h' b (.tup (q.1.map kV)) from I2.hok b _ hb)
        refine ⟨.cons ⟨.ref b, rfl, b, _, rfl, ⟨fun ⟨o2, q2⟩ => ?_, hb⟩, VDs.dk q.1⟩ t1, .cons ⟨[], ?_, by simp⟩ t2⟩
        · obtain ⟨w2, w3⟩ : ∃ u, OH (MD μ) H b u := ⟨_, m b _ q2⟩
          cases w2 with
          | lst ds => obtain ⟨x1, x2, _⟩ := w3; rw [hb] at x2; cases x2
          | dK ds => obtain ⟨x1, x2, _⟩ := w3; rw [hb] at x2; cases x2
          | dT ds => obtain ⟨x1, x2, _⟩ := w3; rw [hb] at x2; cases x2
          | ins C fs => obtain ⟨x1, x3, x2, _⟩ := w3; rw [hb] at x2; cases x2
          | ro ds =>
            obtain ⟨x1, x2, _⟩ := w3
            rcases x2 with x2 | ⟨_, x2⟩ <;> (rw [hb] at x2; cases x2)
          | fz a1 a2 a3 => obtain ⟨x2, _⟩ := w3; rw [hb] at x2; cases x2
          | fzT a1 a2 a3 => obtain ⟨x2, _⟩ := w3; rw [hb] at x2; cases x2
          | pot => obtain ⟨x1, x3, x2, _⟩ := w3; rw [hb] at x2; cases x2
        · show Reads _ _ (.tuple (pyDs (q.1.map Dk))) []
          exact .tuple (Heap.get?_push_of_some _ g1) g2 g3 (reads_dk (by simpa using rv))
  obtain ⟨ea, eb⟩ := each1 acc.toList kvs (by omega) at_
  have hat : (h'.push (seqObj "list" acc.toList.toArray 0)).get? h'.objs.size = some (seqObj "list" acc.toList.toArray 0) := Heap.get?_push_size _ rfl
  have sb : PySem.W.Sortable ((kvs.map fun q => keyT q.1).map pyD) := .inl fun d hd => by
    obtain ⟨x, hx, rfl⟩ := List.mem_map.mp hd
    obtain ⟨q, hq, rfl⟩ := List.mem_map.mp hx
    obtain ⟨k0, k1, e0⟩ := List.exists_cons_of_ne_nil (h2 q hq)
    refine ⟨pyD (Dk k0), pyDs (k1.map Dk), ?_⟩
    show PyData.tuple (pyDs (q.1.map Dk)) = _
    rw [e0]
    rfl
  have key := PySem.W.list_sort_data (prog := X.prog) (w := X.w) (A := X.A.in1) (E := X.xe) (s := { s with heap := h'.push (seqObj "list" acc.toList.toArray 0), toks := tk }) (Q := fun _ s' => EP X pins σ Q (.ref h'.objs.size) s') hat ea eb h3 sb (by rw [List.length_map, sizeLine_eq]; omega)
    (fun b hb => by
      obtain ⟨q, hq, rfl⟩ := List.mem_map.mp hb
      show X.A.units + 1 + 1 + (PyData.tuple (pyDs (q.1.map Dk))).depth < cLine
      simp only [PyData.depth, depth_dk]
      omega) fun out hlo heo => by
      obtain ⟨ws, r2, g2⟩ := each_vals heo
      obtain ⟨ep', he'⟩ := PyProof.Rows.sortedHeap_at (out := out.toArray) hat
      have hf := I2.hok.fresh (Nat.le_refl _)
      refine ⟨.ref _, upd H h'.objs.size (.lst ws), I2.laid (t' := tk) (fun b o' e' => ?_) (Nat.le_refl _) ⟨?_, out, ep', r2, he'⟩, rfl, k _ _ (lft_new m g2 hf h5)⟩
      · have hb : b < h'.objs.size := Heap.lt_size e'
        rw [PyProof.Rows.sortedHeap_old (Nat.ne_of_lt hb) (by rw [Heap.size_push]; exact Nat.lt_succ_of_lt hb)]
        exact Heap.get?_push_of_some _ e'
      · rw [← g2.length, List.length_mergeSort, List.length_map, sizeLine_eq]
        omega
  refine wpAny_bind (wpAny_holding (wpAny_mono key (fun _ s' x => ?_) fun _ _ e => e))
  exact wpAny_pure ⟨_, rfl, x⟩
end
end Dl
namespace Dl
open PySem PySem.Spec PyProof.Rows L2
variable {B : Bs}
/-! ### an instance's fields -/
def putFD (f : Str) (d : D) : List (Str × D) → List (Str × D)
  | [] => [(f, d)]
  | (g, x) :: r => if g = f then (g, d) :: r else (g, x) :: putFD f d r
theorem KD.putF {M : Ms} {H : Hp} {f : Str} {d : D} {v : V} (hv : VD M H d v) : ∀ {fs : List (Str × D)} {gs : List (Str × V)}, KD M H fs gs → KD M H (putFD f d fs) (L2.putF f v gs)
  | _, _, .nil => .cons ⟨rfl, hv⟩ .nil
  | (g, x) :: fs, (h, y) :: gs, .cons r t => by
    obtain ⟨e, q⟩ := r
    have e' : g = h := e
    subst e'
    show KD M H (if g = f then (g, d) :: fs else (g, x) :: putFD f d fs) (if g = f then (g, v) :: gs else (g, y) :: L2.putF f v gs)
    by_cases c : g = f
    · rw [if_pos c, if_pos c]
      exact .cons ⟨rfl, hv⟩ t
    · rw [if_neg c, if_neg c]
      exact .cons ⟨rfl, q⟩ (KD.putF hv t)
/-- o.f, o an instance of the class at C -/
def wFld (C : Addr) (f : Str) (a : WE) : WE := fun ρ μ Q => a ρ μ fun d μ1 => ∃ p fs e, d = .at p ∧ μ1 p = some (.ins C fs) ∧ fs.lookup f = some e ∧ Q e μ1
def wSetFld (C : Addr) (f : Str) (o v : WE) : WS := fun DD ρ μ => v ρ μ fun e μ1 => o ρ μ1 fun d μ2 => ∃ p fs, d = .at p ∧ μ2 p = some (.ins C fs) ∧ fs.length < 1000 ∧ DD.nx ρ (put μ2 p (.ins C (putFD f e fs)))
def wFldAug (C : Addr) (f : Str) (g : Int → Int → Int) (o v : WE) : WS := fun DD ρ μ => o ρ μ fun d μ1 => ∃ p fs i, d = .at p ∧ μ1 p = some (.ins C fs) ∧ fs.lookup f = some (.int i) ∧
  v ρ μ1 fun e μ2 => ∃ j fs', e = .int j ∧ μ2 p = some (.ins C fs') ∧ fs'.length < 1000 ∧ DD.nx ρ (put μ2 p (.ins C (putFD f (.int (g i j)) fs')))
section
variable {X : Cx} {C : Addr} {e o z : Expr} {f : Str} {pos pos' tpos : Pos} {a b : WE}
theorem je_fld (c : Cls X.K C) (n : NoAttr X.K C f) (he : JE B X e a) (hb : attributeBase e f X.env (eval e X.env) = eval e X.env := by rfl) : JE B X (.Attribute e f pos) (wFld C f a) := PE.of (pe_fld he hb) fun σ H Q ⟨ρ, μ, QD, rs, m, h, k⟩ =>
  up_mk rs m h fun v H1 d μ1 s1 m1 v1 ⟨p, fs, x, ed, hp, hl, q⟩ => by
    subst ed
    obtain ⟨dx, gs, e1, kd⟩ := m1 p _ hp
    obtain ⟨y, hy, vy⟩ := kd.lookup_some hl
    exact ⟨p, C, dx, gs, y, v1, e1, c, n, hy, k _ _ ⟨x, μ1, s1, m1, vy, q⟩⟩
theorem js_fld (c : Cls X.K C) (n : NoAttr X.K C f) (ho : JE B X o a) (hv : JE B X z b) (hs : swapsWith z (some (.Attribute o f pos')) pos.line X.env = pure false := by rfl) : JS B X (.Assign [.Attribute o f pos'] z pos) (wSetFld C f a b) := PS.of (ps_fld ho hv hs) fun E σ H ⟨ρ, μ, DD, rs, m, h, l⟩ =>
  up_mk rs m h fun v H1 x μ1 s1 m1 v1 h1 => up_mk (rs.step s1) m1 h1 fun u H2 d μ2 s2 m2 v2 ⟨p, fs, ed, hp, hl, q⟩ => by
    subst ed
    obtain ⟨dx, gs, e1, kd⟩ := m2 p _ hp
    have st : Step (MD μ2) H2 (MD (put μ2 p (.ins C (putFD f x fs)))) (upd H2 p (.ins C dx (L2.putF f v gs))) := .write ⟨_, hp⟩
    refine ⟨p, C, dx, gs, v2, e1, c, n, by rw [← Paired.length kd]; exact hl, l.nx σ _ ρ _ ((s1.trans s2).trans st) (rs.step ((s1.trans s2).trans st)) (m2.write ⟨_, hp⟩ ⟨dx, _, upd_same, KD.step st (kd.putF (VD.step s2 _ _ v1))⟩) q⟩
end
/-! ### len by the text's own __len__ -/
def noX : XD := fun _ _ _ => False
def fLenO (C : Addr) (sp : SpD) : FN := fun ds μ Q => ∃ p fs, ds = [.at p] ∧ μ p = some (.ins C fs) ∧ sp [.at p] μ (fun d μ' => ∃ n : Int, d = .int n ∧ 0 ≤ n ∧ n < 2 ^ 63 ∧ Q (.int n) μ') noX
section
variable {X : Cx} {C f : Addr} {fd : FuncData} {ps : List Str} {sp : SpD} {k : Nat}
theorem cd_lenO (F : FnG X.prog X.w X.K X.mg X.base k f fd ps sp) (hr : Room (k + 1) X.A) (hg : X.A.guards = some []) (tk : Takes X fun _ _ _ _ => False) (hb : KBd X.K fd ps 1 [] fun ds _ => ds) (hs : PySem.W.findIn X.K (.ref C) "__len__" = some (some (.ref f))) (hf : PySem.W.isFn X.K (.ref f) = true) :
    CallR X (.builtin "len") (upFN (fLenO C sp)) := fun pins s σ H xs us Q I rx ⟨ds, μ, QD, v, m, ⟨p, fs, e, hp, hsp⟩, kk⟩ => by
  subst e
  obtain ⟨v1, vs, rfl, r1, e2⟩ := v
  rw [show vs = [] from e2, show v1 = V.ref p from r1] at rx
  cases rx with
  | cons q1 q2 =>
    cases q2
    cases q1
    obtain ⟨dx, gs, e1, kd⟩ := m p _ hp
    obtain ⟨mA, J, _⟩ := ins_get I.hok e1
    obtain ⟨od, J, _⟩ := J.look
    obtain ⟨mm, hF⟩ := I.fr
    refine PySem.W.len_K hF I.ok.mod.kin J hs hf ?_
    obtain ⟨zs, hbd, hrel⟩ := hb.to s [.ref p] [] I.kIn rfl rfl
    obtain ⟨ys, ry, vy⟩ := hrel (MD μ) H [.at p] [] [.ref p] [] ⟨_, _, rfl, rfl, rfl⟩ rfl (.cons rfl .nil) .nil
    refine wpAny_call (codeAny_mono (F.run X.A.in1 X.stack s H ⟨[.ref p], []⟩ zs ys (fun v H' => ∃ n : Int, v = .int n ∧ 0 ≤ n ∧ n < 2 ^ 63 ∧ Q (.int n) H') (fun _ _ _ => False) hg hr.in1 I.env0.in1 hbd ry
      ⟨_, μ, _, _, vy, m, hsp, ?_, fun cls d H' ⟨_, _, _, _, _, z⟩ => z⟩) fun r s' hq => ?_)
    · rintro v H' ⟨d, μ', st, m', vd, n, rfl, h1, h2, h3⟩
      exact ⟨n, vd, h1, h2, kk _ _ ⟨.int n, μ', st, m', rfl, h3⟩⟩
    · cases r with
      | error e => exact tk e s' (XE.of_call I (fun cls d H' z => z) hq)
      | ok fl =>
        cases fl with
        | ret u =>
          obtain ⟨v, H', I', rv, n, rfl, h1, h2, h3⟩ := I.after hq
          obtain ⟨t, rfl⟩ := (show ∃ t, u = Value.int n t from rv)
          exact ⟨⟨h1, h2⟩, .int n, H', I'.tok _, ⟨_, rfl⟩, h3⟩
        | next => exact hq.elim
        | brk => exact hq.elim
        | cont => exact hq.elim
end
/-! ### the law's end -/
/-- no list among what the top has made -/
def noLists (K : Frg) : Bool := K.all fun q => match q.2.cls with
  | .type n => !(n == "list")
  | _ => true
theorem noLists_at {K : Frg} (h : noLists K = true) {a : Addr} {o : Obj} (e : K.lookup a = some o) : o.cls ≠ .type "list" := by
  intro z
  have hm : (a, o) ∈ K := by
    clear h
    induction K with
    | nil => cases e
    | cons q K ih =>
      obtain ⟨b, u⟩ := q
      rw [List.lookup_cons] at e
      cases c : (a == b) with
      | true =>
        rw [c] at e
        cases e
        rw [eq_of_beq c]
        exact List.mem_cons_self
      | false =>
        rw [c] at e
        exact List.mem_cons_of_mem _ (ih e)
  have := List.all_eq_true.mp h _ hm
  rw [show (a, o).2.cls = .type "list" from z] at this
  simp at this
def scriptMu (a : Addr) (ns : List Int) : Mu := put (fun _ => none) a (.ro (ns.map .int))
theorem vds_ints {M : Ms} {H : Hp} : ∀ ns : List Int, VDs M H (ns.map .int) (ns.map V.int)
  | [] => rfl
  | n :: ns => ⟨_, _, rfl, rfl, vds_ints ns⟩
theorem law_G {P : Program} {w : World} {K : Frg} {mg mb : Str → Option Value} {k : Nat} {fa a : Addr} {fd : FuncData} {x : Str} {sp : SpD} {s₁ : Shared} {vs : List Value} {ns : List Int}
    (KX : K.In s₁.heap) (hns : s₁.heap.Ns mainGlobals mg) (hb : s₁.heap.Ns builtinsNs mb) (hbb : ∀ x : Str, x ≠ "__name__" → mb x = bootBuiltins x) (hlim : s₁.heap.NoLimit) (hg : s₁.gens = #[])
    (ha : s₁.heap.get? a = some { cls := .type "list", data := .seq vs.toArray }) (hi : IntsAre vs ns) (hl : ns.length ≤ sizeLine) (hr : Room k callerA) (nl : noLists K = true)
    (F : ∀ base : Heap, K.In base → base.Ns mainGlobals mg → FnG P w K mg base k fa fd [x] sp) (hbind : ∀ (s : Shared) (u : Value), BindsTo s fd ⟨[u], []⟩ [(x, u)])
    (hsp : sp [.at a] (scriptMu a ns) (fun d _ => d = .bl true) noX) :
    codeAny (model P w) callerA (.call (.ref fa) ⟨[.ref a], []⟩) (fun r s' => r = .ok (.ret (.bool true)) ∧ OldK s₁.heap s'.heap ∧ s'.os = s₁.os ∧ AllBare s'.gens) s₁ := by
  -- what is tracked: the script alone
  have ha' := ha
  generalize hob : ({ cls := .type "list", data := .seq vs.toArray } : Obj) = ob at ha
  have hcls : ob.cls = .type "list" := by rw [← hob]
  have hdat : ∃ c, ob.data = .seq vs.toArray c := ⟨_, by rw [← hob]⟩
  let H : Hp := upd (fun _ => none) a (.frz ob (.lst (ns.map V.int)))
  have Ha : H a = some (.frz ob (.lst (ns.map V.int))) := upd_same
  have Hn : ∀ {b : Addr}, b ≠ a → H b = none := fun {b} n => upd_ne n
  have low : ∀ {b : Addr} {o : Obj}, s₁.heap.get? b = some o → b ≠ a → (hidT s₁.heap H).get? b = some o := fun e n => hidT_get e (Hn n)
  have lowNs : ∀ {b : Addr} {m : Str → Option Value}, s₁.heap.Ns b m → (hidT s₁.heap H).Ns b m := fun {b m} ⟨o, es, ep, e, d, r⟩ => ⟨o, es, ep, low e (fun z => by
    subst z
    rw [ha] at e
    cases e
    obtain ⟨c, hd⟩ := hdat
    rw [hd] at d
    cases d), d, r⟩
  have kin : K.In (hidT s₁.heap H) := fun b o e => low (KX b o e) fun z => by
    subst z
    have e2 := KX b o e
    rw [ha] at e2
    cases e2
    exact noLists_at nl e hcls
  have hok : HOk P w H s₁.heap := fun b u e => by
    by_cases z : b = a
    · subst z
      rw [Ha] at e
      cases e
      refine ⟨ha, by rw [List.length_map]; exact hl, vs, _, vals_ints hi, ha'⟩
    · rw [Hn z] at e
      cases e
  have mh : MH (scriptMu a ns) H := fun b u e => by
    by_cases z : b = a
    · subst z
      rw [scriptMu, put_same] at e
      cases e
      exact ⟨ns.map V.int, .inr ⟨ob, Ha⟩, vds_ints ns⟩
    · rw [scriptMu, put_ne z] at e
      cases e
  have e0 : Env0 P w K mg (hidT s₁.heap H) callerA [] s₁ H := ⟨rfl, ⟨kin, lowNs hns, ⟨mb, lowNs hb, hbb⟩, let ⟨mc, h1, h2⟩ := hlim; ⟨mc, lowNs h1, h2⟩⟩, fun b o e => of_hidT e, Nat.le_of_eq (hidT_size _ _), trivial, fun b z => absurd (show b ∈ ([] : List Addr) from z) (by simp), hok, .of_eq hg⟩
  refine codeAny_mono ((F _ kin (lowNs hns)).run callerA [] s₁ H ⟨[.ref a], []⟩ [.ref a] [.ref a] (fun v _ => v = .bl true) (fun _ _ _ => False) rfl hr e0 (hbind s₁ (.ref a)) (.cons rfl .nil)
    ⟨[.at a], scriptMu a ns, fun d _ => d = .bl true, noX, ⟨_, _, rfl, rfl, rfl⟩, mh, hsp, fun v H' ⟨d, μ', _, _, vd, ed⟩ => (by subst ed; exact vd), fun cls d H' ⟨_, _, _, _, _, z⟩ => z⟩) fun r s' h => ?_
  cases r with
  | error e =>
    obtain ⟨_, _, _, _, _, _, _, _, _, _, _, _, z⟩ := h
    exact z.elim
  | ok fl =>
    cases fl with
    | next => exact False.elim h
    | brk => exact False.elim h
    | cont => exact False.elim h
    | ret u =>
      obtain ⟨v, H', os, bare, un, hok', rv, q⟩ := h
      have q' : v = .bl true := q
      subst q'
      obtain rfl : u = Value.bool true := rv
      refine ⟨rfl, OldK.of_keep fun b o e => ?_, os, bare⟩
      by_cases z : b = a
      · subst z
        obtain ⟨e2, _⟩ := hok' b _ (un.frzs b ob _ Ha)
        rw [ha] at e
        cases e
        exact e2
      · exact un.keep b o e (Hn z) (by intro z; exact absurd (show b ∈ ([] : List Addr) from z) (by simp)) (by simp)
/-- the goal that k_head leaves -/
theorem walk_G {l : PySem.W.OpenLaw} {n k : Nat} {q : Program} {loose : List Str} {XP : (Str → Option Value) → Heap → Prop} {YP : World → Heap → Prop} {d : DefRec} {K : Params → Frg} {sp : SpD} {x : Str}
    (hn : l.most = some n) (hn2 : n ≤ sizeLine) (hdf : d.params.defaults = []) (hr : Room k callerA) (hY : ∀ (w : World) (h : Heap), YP w h → (K w.params).In h) (nl : ∀ p, noLists (K p) = true)
    (F : ∀ (w : World) (mg : Str → Option Value) (fa : Addr) (h : Heap), (K w.params).In h → h.Ns mainGlobals mg → mg d.name = some (.ref fa) →
      ∃ fd : FuncData, (∀ (s : Shared) (u : Value), BindsTo s fd ⟨[u], []⟩ [(x, u)]) ∧ ∀ base : Heap, (K w.params).In base → base.Ns mainGlobals mg → FnG l.prog w (K w.params) mg base k fa fd [x] sp)
    (hsp : ∀ (a : Addr) (ns : List Int), ns.length ≤ n → sp [.at a] (scriptMu a ns) (fun d _ => d = .bl true) noX) :
    PySem.W.WalkO q loose XP YP l.row.toRowW d [] (fun f vs => PySem.call f vs) := by
  refine Att.attach_call hn hdf fun w s₀ s₁ mg mb fa o pm cd doc a vs ns G Y ho hd hcd hmg hobj hints hlen hg => ?_
  have KX := hY w _ Y
  obtain ⟨fd, hb, hF⟩ := F w mg fa _ KX G.T.g hmg
  exact law_G KX G.T.g G.T.b G.T.builtins G.T.nolimit hg hobj hints (Nat.le_trans hlen hn2) hr (nl _) hF hb (hsp a ns hlen)
end Dl
namespace Dl
open PySem PySem.Spec PyProof.Rows L2
variable {B : Bs}
/-! ### a pot, opened for a while -/
def shutP (p : Addr) (DD : Ed) : Ed where
  nx := fun ρ μ => ∃ x y, μ p = some (.lst [.int x, .int y]) ∧ PotOk x y ∧ DD.nx ρ (put μ p .pot)
  rt := fun d μ => ∃ x y, μ p = some (.lst [.int x, .int y]) ∧ PotOk x y ∧ DD.rt d (put μ p .pot)
  bk := fun ρ μ => ∃ x y, μ p = some (.lst [.int x, .int y]) ∧ PotOk x y ∧ DD.bk ρ (put μ p .pot)
  ct := fun ρ μ => ∃ x y, μ p = some (.lst [.int x, .int y]) ∧ PotOk x y ∧ DD.ct ρ (put μ p .pot)
def wPot (b : WS) : WS := fun DD ρ μ => ∃ p, μ p = some .pot ∧ ∀ x y, PotOk x y → b (shutP p DD) ρ (put μ p (.lst [.int x, .int y]))
theorem same_step {μ : Mu} {H : Hp} {p : Addr} {o u : O} (e : μ p = some o) : Step (MD μ) H (MD (put μ p u)) H := ⟨fun _ _ _ e => e, fun a ⟨z, q⟩ => by
  by_cases c : a = p
  · subst c
    exact .inl ⟨_, e⟩
  · rw [put_ne c] at q
    exact .inl ⟨_, q⟩⟩
theorem same_mh {μ : Mu} {H : Hp} {p : Addr} {o u : O} (m : MH μ H) (e : μ p = some o) (h : OH (MD (put μ p u)) H p u) : MH (put μ p u) H := fun a z q => by
  by_cases c : a = p
  · subst c
    rw [put_same] at q
    cases q
    exact h
  · rw [put_ne c] at q
    exact (m a z q).step (same_step e) rfl
theorem shut_to {μ : Mu} {H : Hp} {p : Addr} {x y : Int} (m : MH μ H) (e : μ p = some (.lst [.int x, .int y])) (h : PotOk x y) : Step (MD μ) H (MD (put μ p .pot)) H ∧ MH (put μ p .pot) H := by
  refine ⟨same_step e, same_mh m e ?_⟩
  obtain ⟨xs, h1, v, vs, rfl, rx, v2, vs2, rfl, ry, e0⟩ := m p _ e
  rw [show v = V.int x from rx, show v2 = V.int y from ry, show vs2 = [] from e0] at h1
  exact ⟨x, y, h1, h⟩
theorem jss_pot {X : Cx} {st : List Stmt} {b : WS} (h : JSs B X st b) : JSs B X st (wPot b) := PSs.of h fun E σ H ⟨ρ, μ, DD, rs, m, ⟨p, hp, q⟩, l⟩ => by
  obtain ⟨x, y, h1, h2⟩ := m p _ hp
  have st : Step (MD μ) H (MD (put μ p (.lst [.int x, .int y]))) H := same_step hp
  have l1 := l.step st
  refine ⟨ρ, _, _, rs.step st, same_mh m hp ⟨_, h1, _, _, rfl, rfl, _, _, rfl, rfl, rfl⟩, q x y h2, ?_⟩
  refine ⟨fun σ' H' ρ' μ' s r m' ⟨x', y', e1, e2, k⟩ => ?_, fun v H' d μ' s m' r ⟨x', y', e1, e2, k⟩ => ?_, fun σ' H' ρ' μ' s r m' ⟨x', y', e1, e2, k⟩ => ?_, fun σ' H' ρ' μ' s r m' ⟨x', y', e1, e2, k⟩ => ?_⟩
  · obtain ⟨s2, m2⟩ := shut_to m' e1 e2
    exact l1.nx σ' H' ρ' _ (s.trans s2) (r.step s2) m2 k
  · obtain ⟨s2, m2⟩ := shut_to m' e1 e2
    exact l1.rt v H' d _ (s.trans s2) m2 (VD.step s2 _ _ r) k
  · obtain ⟨s2, m2⟩ := shut_to m' e1 e2
    exact l1.bk σ' H' ρ' _ (s.trans s2) (r.step s2) m2 k
  · obtain ⟨s2, m2⟩ := shut_to m' e1 e2
    exact l1.ct σ' H' ρ' _ (s.trans s2) (r.step s2) m2 k
/-! ### defs that may be called -/
abbrev noW : WXD := fun _ _ _ _ => False
theorem tkN {X : Cx} : Takes X (upX B noW) := Takes.imp takes0 fun c d σ H ⟨_, _, _, _, _, _, z⟩ => z
/-- a def of the module -/
structure Def0 (K : Frg) (mg : Str → Option Value) (x : Str) (st : Stmt) : Prop where
  ex : ∃ (f : Addr) (fd : FuncData), Fun K x x st f fd ∧ mg x = some (.ref f)
/-- a method of the class at C (or of one above it) -/
structure Met0 (K : Frg) (C : Addr) (m qual : Str) (st : Stmt) : Prop where
  ex : ∃ (f : Addr) (fd : FuncData), Fun K m qual st f fd ∧ Meth K C m f
structure CalD (P : Program) (w : World) (K : Frg) (mg : Str → Option Value) (base : Heap) (k : Nat) (x : Str) (st : Stmt) (ps : List Str) (sp : SpD) : Prop where
  ex : ∃ (f : Addr) (fd : FuncData), FnG P w K mg base k f fd ps sp ∧ Fun K x x st f fd ∧ mg x = some (.ref f)
structure MetD (P : Program) (w : World) (K : Frg) (mg : Str → Option Value) (base : Heap) (k : Nat) (C : Addr) (m qual : Str) (st : Stmt) (ps : List Str) (sp : SpD) : Prop where
  ex : ∃ (f : Addr) (fd : FuncData), FnG P w K mg base k f fd ps sp ∧ Fun K m qual st f fd ∧ Meth K C m f
/-- a class that may be made under the name x; sp: its __init__ -/
structure MakD (P : Program) (w : World) (K : Frg) (mg : Str → Option Value) (base : Heap) (k : Nat) (x : Str) (C : Addr) (qual : Str) (st : Stmt) (ps : List Str) (sp : SpD) : Prop where
  ex : ∃ (f : Addr) (fd : FuncData), FnG P w K mg base k f fd ps sp ∧ Fun K "__init__" qual st f fd ∧ Mk K C f ∧ mg x = some (.ref C)
/-- how written arguments bind: shown by cases -/
def Bd (x qual : Str) (st : Stmt) (ps : List Str) (n : Nat) (ks : List Str) (idx : List Nat) : Prop := ∀ (kV doc pm : Value) (an : Option Addr) (cdv ct : Value) (us ws : List Value), us.length = n → ws.length = ks.length →
  bindArgs (PySem.W.fnOf x qual (defArgs st) (defBody st) (defScope st) .none kV doc pm an cdv ct) ⟨us, ks.zip ws⟩ = pure (ps.zip (us ++ picked ws .none idx))
theorem Bd.to {K : Frg} {x qual : Str} {st : Stmt} {f : Addr} {fd : FuncData} {ps ks : List Str} {n : Nat} {idx : List Nat} (F : Fun K x qual st f fd) (h : Bd x qual st ps n ks idx) : KBd K fd ps n ks (fun ds es => ds ++ picked es .non idx) := by
  obtain ⟨oc, od, kV, doc, pm, an, cdv, ct, osl, rfl, lk, hcd⟩ := F.ex
  exact .kw n idx (h kV doc pm an cdv ct)
section
variable {P : Program} {w : World} {K : Frg} {mg : Str → Option Value} {base : Heap} {k : Nat} {x m qual : Str} {st : Stmt} {N ps : List Str} {sp : SpD} {C : Addr}
/-- the body's side, what every def's theorem shows -/
abbrev BodyOk (P : Program) (w : World) (K : Frg) (mg : Str → Option Value) (base : Heap) (k : Nat) (qual : Str) (st : Stmt) (N : List Str) (sp : SpD) : Prop :=
  ∀ (f : Addr) (cdv : Value) (A : Around) (outer : List Env) (s : Shared) (H : Hp) (EX : XK) (ds : List D) (μ : Mu) (Q : DQ) (E : XD), A.guards = some [] → Room k (A.deeper (envOfC qual (defScope st) s.heap.objs.size f cdv)) →
      Takes (cxOf (L2.CX P w) P w K mg base N qual (defScope st) f cdv A outer s H EX) (upX (MD μ, H) fun cls fs _ μ' => E cls fs μ') →
      PassesOwn (model P w) (A.deeper (envOfC qual (defScope st) s.heap.objs.size f cdv)) (envOfC qual (defScope st) s.heap.objs.size f cdv) (cxOf (L2.CX P w) P w K mg base N qual (defScope st) f cdv A outer s H EX).xe → sp ds μ Q E →
      ∃ b, JSs (MD μ, H) (cxOf (L2.CX P w) P w K mg base N qual (defScope st) f cdv A outer s H EX) (defBody st) b ∧ b { nx := fun _ μ' => wkR Q .non μ', rt := wkR Q } (startD N ds) μ
theorem calD (d : Def0 K mg x st) (S : FnScope N ps (defScope st)) (len : ∀ ds μ Q E, sp ds μ Q E → ds.length = ps.length) (h : BodyOk P w K mg base k x st N sp) : CalD P w K mg base (k + 1) x st ps sp := by
  obtain ⟨f, fd, F, e⟩ := d.ex
  obtain ⟨oc, od, kV, doc, pm, an, cdv, ct, osl, h1, h2, h3⟩ := F.ex
  exact ⟨f, fd, fnD ⟨oc, od, _, kV, doc, pm, an, cdv, ct, osl, h1, h2, h3⟩ S len (h f), F, e⟩
theorem metD (d : Met0 K C m qual st) (S : FnScope N ps (defScope st)) (len : ∀ ds μ Q E, sp ds μ Q E → ds.length = ps.length) (h : BodyOk P w K mg base k qual st N sp) : MetD P w K mg base (k + 1) C m qual st ps sp := by
  obtain ⟨f, fd, F, e⟩ := d.ex
  obtain ⟨oc, od, kV, doc, pm, an, cdv, ct, osl, h1, h2, h3⟩ := F.ex
  exact ⟨f, fd, fnD ⟨oc, od, _, kV, doc, pm, an, cdv, ct, osl, h1, h2, h3⟩ S len (h f), F, e⟩
theorem makD (d : ∃ (f : Addr) (fd : FuncData), Fun K "__init__" qual st f fd ∧ Mk K C f ∧ mg x = some (.ref C)) (S : FnScope N ps (defScope st)) (len : ∀ ds μ Q E, sp ds μ Q E → ds.length = ps.length) (h : BodyOk P w K mg base k qual st N sp) : MakD P w K mg base (k + 1) x C qual st ps sp := by
  obtain ⟨f, fd, F, e⟩ := d
  obtain ⟨oc, od, kV, doc, pm, an, cdv, ct, osl, h1, h2, h3⟩ := F.ex
  exact ⟨f, fd, fnD ⟨oc, od, _, kV, doc, pm, an, cdv, ct, osl, h1, h2, h3⟩ S len (h f), F, e⟩
theorem CalD.mono {j : Nat} (c : CalD P w K mg base j x st ps sp) (h : j ≤ k) : CalD P w K mg base k x st ps sp := let ⟨f, fd, F, e⟩ := c.ex; ⟨f, fd, F.mono h, e⟩
end
section
variable {X : Cx} {k j : Nat} {C : Addr} {x m qual : Str} {st : Stmt} {ps ks : List Str} {sp : SpD} {n : Nat} {idx : List Nat} {p pos apos : Pos} {e o : Expr} {es : List Expr} {kws : List Keyword} {t : WCl} {wo : WE} {W : WXD}
def gP (idx : List Nat) (ds es : List D) : List D := ds ++ picked es .non idx
/-- the rules for calls, by what is known of the def -/
theorem jf (c : CalD X.prog X.w X.K X.mg X.base k x st ps sp) (hr : Room j X.A) (hk : k ≤ j) (hg : X.A.guards = some []) (tk : Takes X (upX B W)) (hb : Bd x x st ps n ks idx) (ha : JCl B X es kws ks t) (hgl : Gl X x := by rfl) (hdb : (x == ("__debug__" : Str)) = false := by decide) :
    JE B X (.Call (.Name x p) es kws pos) (wCall n sp (gP idx) W t) := by
  obtain ⟨f, fd, G, F, e⟩ := c.ex
  exact je_call G (hr.mono hk) hg tk e F.kp (hb.to F) ha hgl hdb
theorem jm {pl : Sem Bool} (ho : JE B X o wo) (c : Cls X.K C) (d : MetD X.prog X.w X.K X.mg X.base k C m qual st ps sp) (hr : Room j X.A) (hk : k ≤ j) (hg : X.A.guards = some []) (tk : Takes X (upX B W)) (hb : Bd m qual st ps n ks idx) (ha : JCl B X es kws ks t)
    (ht : eval (.Call (.Attribute o m apos) es kws pos) X.env = (do
      let ov ← eval o X.env
      standAt apos.atName
      let (f, first) ← holding [ov] (getMethod ov m pl)
      callWith pos f first (backTo pos (starEach es X.env)) (backToKw pos (keywordEach kws X.env))) := by rfl) : JE B X (.Call (.Attribute o m apos) es kws pos) (wMeth C m n sp (gP idx) W wo t) := by
  obtain ⟨f, fd, G, F, M⟩ := d.ex
  exact je_meth (pl := pl) ho c M G (hr.mono hk) hg tk (hb.to F) ha ht
theorem jk (d : MakD X.prog X.w X.K X.mg X.base k x C qual st ps sp) (hr : Room j X.A) (hk : k + 1 ≤ j) (hg : X.A.guards = some []) (tk : Takes X (upX B W)) (hb : Bd "__init__" qual st ps n ks idx) (ha : JCl B X es kws ks t) (hgl : Gl X x := by rfl) (hdb : (x == ("__debug__" : Str)) = false := by decide) :
    JE B X (.Call (.Name x p) es kws pos) (wMake C n sp (gP idx) W t) := by
  obtain ⟨f, fd, G, F, M, e⟩ := d.ex
  exact je_make M G (hr.mono hk) hg tk e (hb.to F) ha hgl hdb
/-- len(o), o an instance with a __len__ of its own -/
theorem jlen {a : WA} (d : MetD X.prog X.w X.K X.mg X.base k C "__len__" qual st ["self"] sp) (hr : Room j X.A) (hk : k + 1 ≤ j) (hg : X.A.guards = some []) (hb : Bd "__len__" qual st ["self"] 1 [] []) (hm : X.mg "len" = none) (ha : JA B X [e] a) (hgl : Gl X "len" := by rfl)
    (he : starEach [e] X.env = (false, eval e X.env) :: starEach [] X.env := by rfl) (hpl : (backTo pos (starEach [] X.env)).any (·.1) = false := by rfl) : JE B X (.Call (.Name "len" p) [e] [] pos) (wFN (fLenO C sp) a) := by
  obtain ⟨f, fd, G, F, M⟩ := d.ex
  refine je_cb (cd_lenO G (hr.mono hk) hg takes0 ?_ M.at_ M.fn) hm ha (by decide +kernel) hgl (by decide) (by decide) he hpl
  have h := hb.to F
  exact ⟨fun s us ws a b c => let ⟨zs, h1, h2⟩ := h.to s us ws a b c; ⟨zs, h1, fun M H ds es vs ms p q r t => let ⟨xs, h3, h4⟩ := h2 M H ds es vs ms p q r t; ⟨xs, h3, by simpa [picked] using h4⟩⟩⟩
end
end Dl
namespace Dl
open PySem PySem.Spec PyProof.Rows L2
variable {B : Bs}
theorem rooms {k : Nat} {A : Around} (r : Room k A) : A.units + 65 < cLine ∧ A.units + 1 < cLine ∧ A.units + 2 < cLine := by
  have := r.un
  exact ⟨by omega, by omega, by omega⟩
/-! ### readings, step by step -/
section
variable {ρ : Rho} {μ : Mu} {Q : DQ} {d e : D} {ds es xs ys : List D} {i j : Int} {l p : Addr} {x y : Str} {b c : Bool}
theorem rd_name {k : Nat} (h : ρ[k]? = some (some d)) (q : Q d μ) : wName k ρ μ Q := by
  unfold wName
  rw [h]
  exact q
theorem rd_bl {R : Bool → Prop} (q : R b) : isBl (.bl b) R := q
theorem rd_brT {P R : Prop} (h : c = true) (q : P) : Br c P R := ⟨fun _ => q, fun z => by rw [h] at z; cases z⟩
theorem rd_brF {P R : Prop} (h : c = false) (q : R) : Br c P R := ⟨fun z => (by rw [h] at z; cases z), fun _ => q⟩
theorem rd_br {P R : Prop} (h : c = true → P) (g : c = false → R) : Br c P R := ⟨h, g⟩
theorem rd_brD {T P R : Prop} [Decidable T] (h : T → P) (g : ¬ T → R) : Br (decide T) P R := ⟨fun z => h (of_decide_eq_true z), fun z => g (of_decide_eq_false z)⟩
theorem rd_i0 {g : Int → Int → D} (q : Q (g i j) μ) : fI0 g (.int i) (.int j) μ Q := q
theorem rd_ic {C : Int → Int → Prop} {g : Int → Int → D} (h : C i j) (q : Q (g i j) μ) : fI C g (.int i) (.int j) μ Q := ⟨h, q⟩
theorem rd_addi {m : Bool} (q : Q (.int (i + j)) μ) : fAdd m (.int i) (.int j) μ Q := q
theorem rd_addll {m : Bool} (h : xs.length + ys.length ≤ sizeLine) (q : New m (xs ++ ys) μ Q) : fAdd m (.lst xs) (.lst ys) μ Q := ⟨xs, ys, rfl, rfl, h, q⟩
theorem rd_muli {m : Bool} (h : CMul i j) (q : Q (.int (i * j)) μ) : fMul m (.int i) (.int j) μ Q := ⟨h, q⟩
theorem rd_mull {m : Bool} (h : 0 ≤ j ∧ j < 2 ^ 63 ∧ xs.length * j.toNat ≤ sizeLine) (q : New m (List.replicate j.toNat xs).flatten μ Q) : fMul m (.lst xs) (.int j) μ Q := ⟨xs, rfl, h.1, h.2.1, h.2.2, q⟩
theorem rd_neg (q : Q (.int (-i)) μ) : fNeg (.int i) μ Q := q
theorem rd_isN {n : Bool} (h : (if n then !nonD d else nonD d) = b) (q : Q (.bl b) μ) : fIsN n d .non μ Q := by
  unfold fIsN
  rw [h]
  exact q
theorem rd_eqi {R : Bool → Prop} (q : R (decide (i = j))) : EqQ μ (.int i) (.int j) R := q
theorem rd_eqs {R : Bool → Prop} (q : R (decide (x = y))) : EqQ μ (.str x) (.str y) R := q
theorem rd_eqb {R : Bool → Prop} (q : R (decide (b = c))) : EqQ μ (.bl b) (.bl c) R := q
theorem EqQ.of {R : Bool → Prop} (p q : PyData) (h1 : Rs μ d p) (h2 : Rs μ e q) (h3 : min p.depth q.depth ≤ 60) (h : R (PyData.eqv p q)) : EqQ μ d e R := by
  unfold EqQ
  split
  · cases h1; cases h2
    simp only [PyData.eqv] at h; rw [Bool.beq_eq_decide_eq] at h; exact h
  · cases h1; cases h2
    simp only [PyData.eqv] at h; rw [Bool.beq_eq_decide_eq] at h; exact h
  · cases h1; cases h2
    simp only [PyData.eqv] at h; rw [Bool.beq_eq_decide_eq] at h; exact h
  · exact ⟨p, q, h1, h2, h3, h⟩
theorem rd_ixl {z : D} (h : atI xs i = some z) (q : Q z μ) : fIx (.lst xs) (.int i) μ Q := ⟨xs, z, rfl, h, q⟩
theorem rd_ixt {z : D} (h : atI xs i = some z) (q : Q z μ) : fIx (.tup xs) (.int i) μ Q := ⟨xs, z, rfl, h, q⟩
theorem rd_ixa {z : D} (h1 : μ l = some (.lst xs)) (h : atI xs i = some z) (q : Q z μ) : fIx (.at l) (.int i) μ Q := ⟨xs, z, .inl h1, h, q⟩
theorem rd_ixr {z : D} (h1 : μ l = some (.ro xs)) (h : atI xs i = some z) (q : Q z μ) : fIx (.at l) (.int i) μ Q := ⟨xs, z, .inr h1, h, q⟩
theorem rd_lenl (q : Q (.int xs.length) μ) : fLen [.lst xs] μ Q := ⟨xs, rfl, q⟩
theorem rd_lent (q : Q (.int xs.length) μ) : fLen [.tup xs] μ Q := ⟨xs, rfl, q⟩
theorem rd_lena (h1 : μ l = some (.lst xs)) (q : Q (.int xs.length) μ) : fLen [.at l] μ Q := ⟨xs, .inl h1, q⟩
theorem rd_lenr (h1 : μ l = some (.ro xs)) (q : Q (.int xs.length) μ) : fLen [.at l] μ Q := ⟨xs, .inr h1, q⟩
theorem rd_abs (q : Q (.int (if i < 0 then -i else i)) μ) : fAbs [.int i] μ Q := q
theorem rd_ii {g : Int → Int → Int} (q : Q (.int (g i j)) μ) : fII g [.int i, .int j] μ Q := q
theorem rd_divmod (h : CDivW i j) (q : Q (.tup [.int (i / j), .int (i % j)]) μ) : fDivmod [.int i, .int j] μ Q := ⟨h, q⟩
theorem rd_isi {n t : String} (k : kindD μ d n) (h : kitB n t = some b) (q : Q (.bl b) μ) : fIsi [d, .ty t] μ Q := ⟨n, b, k, h, q⟩
theorem rd_isiI {t : String} (h : kitB "int" t = some b) (q : Q (.bl b) μ) : fIsi [.int i, .ty t] μ Q := ⟨"int", b, rfl, h, q⟩
theorem rd_isiB {t : String} {c : Bool} (h : kitB "bool" t = some b) (q : Q (.bl b) μ) : fIsi [.bl c, .ty t] μ Q := ⟨"bool", b, rfl, h, q⟩
theorem rd_isiS {t : String} (h : kitB "str" t = some b) (q : Q (.bl b) μ) : fIsi [.str x, .ty t] μ Q := ⟨"str", b, rfl, h, q⟩
theorem rd_isiN {t : String} (h : kitB "NoneType" t = some b) (q : Q (.bl b) μ) : fIsi [.non, .ty t] μ Q := ⟨"NoneType", b, rfl, h, q⟩
theorem rd_isiT {t : String} (h : kitB "tuple" t = some b) (q : Q (.bl b) μ) : fIsi [.tup xs, .ty t] μ Q := ⟨"tuple", b, rfl, h, q⟩
theorem rd_isiL {t : String} (h : kitB "list" t = some b) (q : Q (.bl b) μ) : fIsi [.lst xs, .ty t] μ Q := ⟨"list", b, rfl, h, q⟩
theorem rd_newF (q : Q (.lst xs) μ) : New false xs μ Q := q
theorem rd_newT (q : ∀ l, μ l = none → Q (.at l) (put μ l (.lst xs))) : New true xs μ Q := q
theorem rd_set {v : D} {k : Nat} {R : Mu → Prop} (h1 : μ l = some (.lst xs)) (h : ixN xs.length i = some k) (q : R (put μ l (.lst (xs.set k v)))) : f3List (.at l) (.int i) v μ R := ⟨xs, k, h1, h, q⟩
theorem rd_gtup {n : Nat} {r : WGs} {R : Rho → Mu → Prop} (h : ds.length = n) (q : r ds ρ μ R) : wgTup n r (.tup ds) ρ μ R := ⟨h, q⟩
theorem rd_gcons {a : WG} {r : WGs} {R : Rho → Mu → Prop} (q : a d ρ μ fun ρ1 μ1 => r es ρ1 μ1 R) : wgCons a r (d :: es) ρ μ R := ⟨d, es, rfl, q⟩
theorem rd_gnil {R : Rho → Mu → Prop} (q : R ρ μ) : wgNil [] ρ μ R := ⟨rfl, q⟩
theorem rd_len {α : Type} {zs : List α} {n : Nat} {R : Prop} (h : zs.length = n) (q : R) : zs.length = n ∧ R := ⟨h, q⟩
theorem rd_len1 {α : Type} {zs : List α} {n : Nat} {R : Prop} (h : zs.length + 1 = n) (q : R) : zs.length + 1 = n ∧ R := ⟨h, q⟩
theorem rd_sz {n : Nat} {R : Prop} (h : n ≤ sizeLine) (q : R) : n ≤ sizeLine ∧ R := ⟨h, q⟩
theorem rd_fld {C : Addr} {f : Str} {fs : List (Str × D)} {R : Addr → List (Str × D) → D → Prop} (h : μ p = some (.ins C fs)) (hl : fs.lookup f = some e) (q : R p fs e) : ∃ p' fs' e', D.at p = .at p' ∧ μ p' = some (.ins C fs') ∧ fs'.lookup f = some e' ∧ R p' fs' e' := ⟨p, fs, e, rfl, h, hl, q⟩
theorem rd_setfld {C : Addr} {fs : List (Str × D)} {R : Addr → List (Str × D) → Prop} (h : μ p = some (.ins C fs)) (hl : fs.length < 1000) (q : R p fs) : ∃ p' fs', D.at p = .at p' ∧ μ p' = some (.ins C fs') ∧ fs'.length < 1000 ∧ R p' fs' := ⟨p, fs, rfl, h, hl, q⟩
theorem rd_meth {C : Addr} {m : Str} {fs : List (Str × D)} {R : Addr → List (Str × D) → Prop} (h : μ p = some (.ins C fs)) (hl : fs.lookup m = none) (q : R p fs) : ∃ p' fs', D.at p = .at p' ∧ μ p' = some (.ins C fs') ∧ fs'.lookup m = none ∧ R p' fs' := ⟨p, fs, rfl, h, hl, q⟩
theorem rd_itl {R : List D → Prop} (q : R xs) : ∃ ds, Lr μ (.lst xs) ds ∧ R ds := ⟨xs, rfl, q⟩
theorem rd_ita {R : List D → Prop} (h : μ l = some (.lst xs)) (q : R xs) : ∃ ds, Lr μ (.at l) ds ∧ R ds := ⟨xs, .inl h, q⟩
theorem rd_itr {R : List D → Prop} (h : μ l = some (.ro xs)) (q : R xs) : ∃ ds, Lr μ (.at l) ds ∧ R ds := ⟨xs, .inr h, q⟩
theorem rd_lsa {R : Prop} (h : μ l = some (.lst xs)) (q : R) : (∃ zs, Ls μ (.at l) zs) ∧ R := ⟨⟨xs, h⟩, q⟩
theorem rd_rng {R : Int → Prop} (h : -(2 ^ 62) ≤ i ∧ i < 2 ^ 62) (q : R i) : ∃ j, [D.int i] = [.int j] ∧ -(2 ^ 62) ≤ j ∧ j < 2 ^ 62 ∧ R j := ⟨i, rfl, h.1, h.2, q⟩
theorem rd_append (h : μ l = some (.lst xs)) (hs : xs.length ≤ 1000000) (q : Q .non (put μ l (.lst (xs ++ [d])))) : fAppend (.at l) [d] μ Q := ⟨l, xs, d, rfl, rfl, h, hs, q⟩
theorem rd_extl (h : μ l = some (.lst xs)) (hs : xs.length + ys.length ≤ 1000000) (q : Q .non (put μ l (.lst (xs ++ ys)))) : fExtend (.at l) [.lst ys] μ Q := ⟨l, xs, .lst ys, ys, rfl, rfl, h, rfl, hs, q⟩
theorem rd_rev (h : μ l = some (.lst xs)) (q : Q .non (put μ l (.lst xs.reverse))) : fReverse (.at l) [] μ Q := ⟨l, xs, rfl, rfl, h, q⟩
theorem put_at {a : Addr} {u : O} {o : O} (h : μ a = some o) (n : a ≠ l) : put μ l u a = some o := by rw [put_ne n]; exact h
theorem put_no {a : Addr} {u : O} (h : μ a = none) (n : a ≠ l) : put μ l u a = none := by rw [put_ne n]; exact h
theorem no_put {a : Addr} {u : O} (h : put μ l u a = none) : a ≠ l ∧ μ a = none := by
  by_cases e : a = l
  · subst e
    rw [put_same] at h
    cases h
  · rw [put_ne e] at h
    exact ⟨e, h⟩
theorem ne_no {a : Addr} {o : O} (h : μ a = some o) (g : μ l = none) : a ≠ l := fun e => by rw [e, g] at h; cases h
theorem ne_at {a : Addr} {o u : O} (h : μ a = some o) (g : μ l = some u) (n : o ≠ u) : a ≠ l := fun e => by rw [e, g] at h; cases h; exact n rfl
end
theorem divw {i m : Int} (h0 : 0 < m) (h : m ≤ 10 ^ 30) : CDivW i m := by
  refine ⟨h0, ?_⟩
  have h1 : m.natAbs ≠ 0 := by omega
  have h2 : m.natAbs.log2 < 100 := (Nat.log2_lt h1).mpr (by omega)
  omega
/-- what a comprehension asks behind its iterable -/
theorem fl_nil : ([] : List (Str × D)).length ≤ 0 := Nat.le_refl 0
theorem fl_put {f : Str} {d : D} : ∀ {fs : List (Str × D)} {n : Nat}, fs.length ≤ n → (putFD f d fs).length ≤ n + 1
  | [], _, _ => by show 1 ≤ _; omega
  | (g, x) :: r, n, h => by
    show (if g = f then (g, d) :: r else (g, x) :: putFD f d r).length ≤ n + 1
    split
    · simp at h ⊢; omega
    · have := fl_put (f := f) (d := d) (fs := r) (n := n - 1) (by simp at h; omega)
      simp at h ⊢
      omega
theorem fl_cons {q : Str × D} {fs : List (Str × D)} {n : Nat} (h : fs.length ≤ n) : (q :: fs).length ≤ n + 1 := Nat.succ_le_succ h
theorem fl_lt {fs : List (Str × D)} {n : Nat} (h : fs.length ≤ n) (g : n < 1000) : fs.length < 1000 := Nat.lt_of_le_of_lt h g
def LcB (g : WG) (t : WT) (a : WE) (vs : List Nat) (ρ : Rho) (Q : DQ) (ds : List D) (kp : Mu → Prop) (μ1 : Mu) : Prop := ds.length ≤ 1000000 ∧ ∀ L, μ1 L = none → ∃ P : Nat → Mu → Prop, P 0 (put μ1 L (.lst [])) ∧ (∀ i μ, i ≤ ds.length → P i μ → kp μ) ∧
  (∀ i d μ, ds[i]? = some d → P i μ → g d (wipeD ρ vs) μ fun ρ2 μ2 => t ρ2 μ2 fun b μ3 => Br b (a ρ2 μ3 fun e μ4 => ∃ acc, μ4 L = some (.lst acc) ∧ acc.length ≤ i ∧ P (i + 1) (put μ4 L (.lst (acc ++ [e])))) (P (i + 1) μ3)) ∧
  ∀ μ, P ds.length μ → wkR Q (.at L) μ
theorem wLc_eq {wi : WI} {g : WG} {t : WT} {a : WE} {vs : List Nat} {ρ : Rho} {μ : Mu} {Q : DQ} : wLc wi g t a vs ρ μ Q = wi ρ μ fun ds kp μ1 => LcB g t a vs ρ Q ds kp μ1 := rfl
/-! ### helpers of readings -/
theorem atI_ok {α : Type} {xs : List α} {i : Int} (h0 : 0 ≤ i) (h : i < xs.length) : atI xs i = some (xs[i.toNat]'(by omega)) := by
  unfold atI ixN
  rw [if_pos h0, if_pos h]
  exact List.getElem?_eq_getElem _
theorem atI_map {α β : Type} (f : α → β) {xs : List α} {i : Int} (h0 : 0 ≤ i) (h : i < xs.length) : ∃ x, x ∈ xs ∧ atI (xs.map f) i = some (f x) :=
  ⟨xs[i.toNat]'(by omega), List.getElem_mem _, by rw [atI_ok h0 (by rw [List.length_map]; exact h), List.getElem_map]⟩
theorem ints_at {ns : List Int} {i : Int} (h0 : 0 ≤ i) (h : i < ns.length) : ∃ f, f ∈ ns ∧ atI (ns.map D.int) i = some (.int f) := atI_map D.int h0 h
/-- a comprehension whose turns leave all as it stands -/
theorem lc_pure {α : Type} {g : WG} {t : WT} {a : WE} {vs : List Nat} {ρ : Rho} {Q : DQ} {kp : Mu → Prop} {μ1 : Mu} {f h : α → D} {xs : List α} {p : α → Bool} (sz : xs.length ≤ 1000000) (hk : ∀ L acc, μ1 L = none → kp (put μ1 L (.lst acc)))
    (hs : ∀ x ∈ xs, ∀ L acc (K1 : DQ) (K2 : Mu → Prop), μ1 L = none → (p x = true → K1 (h x) (put μ1 L (.lst acc))) → (p x = false → K2 (put μ1 L (.lst acc))) → g (f x) (wipeD ρ vs) (put μ1 L (.lst acc)) fun ρ2 μ2 => t ρ2 μ2 fun b μ3 => Br b (a ρ2 μ3 K1) (K2 μ3))
    (hd : Q (.lst ((xs.filter p).map h)) μ1) : LcB g t a vs ρ Q (xs.map f) kp μ1 := by
  refine lc_by (fun i acc => acc = ((xs.take i).filter p).map h) (by rw [List.length_map]; exact sz) (by simp) hk (fun acc _ e => by
    rw [List.length_map, List.take_length] at e
    rw [e]
    exact hd) fun L i d acc hL la hi r => ?_
  rw [List.getElem?_map] at hi
  cases e : xs[i]? with
  | none => rw [e] at hi; cases hi
  | some x =>
    rw [e] at hi
    cases hi
    have ht : xs.take (i + 1) = xs.take i ++ [x] := by rw [List.take_add_one, e]; rfl
    refine hs x (List.mem_of_getElem? e) L acc _ _ hL (fun hp => lc_more la ?_) fun hp => lc_skip la ?_
    · rw [r, ht, List.filter_append, List.map_append, List.filter_cons_of_pos hp]
      rfl
    · rw [r, ht, List.filter_append, List.filter_cons_of_neg (by simp [hp])]
      simp
theorem take_succ_get {α : Type} {xs : List α} {i : Nat} {x : α} (e : xs[i]? = some x) : xs.take (i + 1) = xs.take i ++ [x] := by rw [List.take_add_one, e]; rfl
theorem less1 {μ : Mu} {l : Addr} {o : O} (h : μ l = none) : Less (put μ l o) μ := (Less.refl μ).put h
end Dl
namespace Dl
open PySem PySem.Spec PyProof.Rows L2
/-! ### dicts, read -/
section
variable {μ : Mu} {a p : Addr} {i : Int} {ks : List D} {k : List Key} {kvs : List (Key × D)} {kts : List (List Key × D)} {v : D} {R : Option D → Prop} {T : D → Prop} {G : Prop} {Q : Mu → Prop}
theorem rd_getK (h : μ a = some (.dK kvs)) (q : R (atD kvs (.inl i))) : ∃ o, GetD μ (.at a) (.int i) o ∧ R o := ⟨_, .inl ⟨kvs, .inl i, .inl h, rfl, rfl⟩, q⟩
theorem rd_getT (h : μ a = some (.dT kts)) (hk : keysD ks = some k) (q : R (atD kts k)) : ∃ o, GetD μ (.at a) (.tup ks) o ∧ R o := ⟨_, .inr ⟨kts, ks, k, h, rfl, hk, rfl⟩, q⟩
theorem rd_dgetK (h : μ a = some (.dK kvs)) (hv : atD kvs (.inl i) = some v) (q : T v) : ∃ v, GetD μ (.at a) (.int i) (some v) ∧ T v := ⟨v, .inl ⟨kvs, .inl i, .inl h, rfl, hv.symm⟩, q⟩
theorem rd_dgetT (h : μ a = some (.dT kts)) (hk : keysD ks = some k) (hv : atD kts k = some v) (q : T v) : ∃ v, GetD μ (.at a) (.tup ks) (some v) ∧ T v := ⟨v, .inr ⟨kts, ks, k, h, rfl, hk, hv.symm⟩, q⟩
theorem rd_dicK (h : μ a = some (.dK kvs)) (q : G) : isDic μ (.at a) ∧ G := ⟨⟨a, rfl, .inl ⟨kvs, h⟩⟩, q⟩
theorem rd_dicT (h : μ a = some (.dT kts)) (q : G) : isDic μ (.at a) ∧ G := ⟨⟨a, rfl, .inr (.inl ⟨kts, h⟩)⟩, q⟩
theorem rd_putK (h : μ a = some (.dK kvs)) (hs : kvs.length ≤ 1000000) (q : Q (put μ a (.dK (putD kvs (.inl i) v)))) : PutD μ (.at a) (.int i) v Q := .inl ⟨kvs, .inl i, h, rfl, hs, q⟩
theorem rd_putT (h : μ a = some (.dT kts)) (hk : keysD ks = some k) (hs : kts.length ≤ 1000000) (q : Q (put μ a (.dT (putD kts k v)))) : PutD μ (.at a) (.tup ks) v Q := .inr ⟨kts, ks, k, h, rfl, hk, hs, q⟩
theorem rd_delK (h : μ a = some (.dK kvs)) (hs : (atD kvs (.inl i)).isSome = true) (q : Q (put μ a (.dK (dropD kvs (.inl i))))) : DelD μ (.at a) (.int i) Q := .inl ⟨kvs, .inl i, h, rfl, hs, q⟩
theorem rd_delT (h : μ a = some (.dT kts)) (hk : keysD ks = some k) (hs : (atD kts k).isSome = true) (q : Q (put μ a (.dT (dropD kts k)))) : DelD μ (.at a) (.tup ks) Q := .inr ⟨kts, ks, k, h, rfl, hk, hs, q⟩
end
/-! ### tables from keys to whole numbers -/
section
variable {α κ : Type} [DecidableEq α] [DecidableEq κ]
abbrev Tb (α : Type) := List (α × Int)
def getI (tb : Tb α) (k : α) : Option Int := (tb.find? fun q => decide (q.1 = k)).map (·.2)
def valI (tb : Tb α) (k : α) : Int := (getI tb k).getD 0
def putI (tb : Tb α) (k : α) (v : Int) : Tb α := if (tb.any fun q => decide (q.1 = k)) = true then tb.map (fun q => if q.1 = k then (q.1, v) else q) else tb ++ [(k, v)]
def dropI (tb : Tb α) (k : α) : Tb α := tb.filter fun q => decide (q.1 ≠ k)
/-- the count at k goes on by more; what comes to 0 is dropped -/
def bump (tb : Tb α) (k : α) (more : Int) : Tb α := if valI tb k + more = 0 then dropI tb k else putI tb k (valI tb k + more)
def enc (kx : α → κ) (tb : Tb α) : List (κ × D) := tb.map fun q => (kx q.1, D.int q.2)
abbrev kI (i : Int) : Key := .inl i
abbrev kP (s : Int × Int) : List Key := [.inl s.1, .inl s.2]
theorem kI_inj : ∀ {a b : Int}, kI a = kI b → a = b := fun h => by cases h; rfl
theorem kP_inj : ∀ {a b : Int × Int}, kP a = kP b → a = b := fun {a b} h => by
  obtain ⟨a1, a2⟩ := a
  obtain ⟨b1, b2⟩ := b
  simp at h
  rw [h.1, h.2]
variable {kx : α → κ} (inj : ∀ {a b : α}, kx a = kx b → a = b)
include inj
theorem enc_at (tb : Tb α) (k : α) : atD (enc kx tb) (kx k) = (getI tb k).map D.int := by
  unfold atD enc getI
  induction tb with
  | nil => rfl
  | cons q tb ih =>
    rw [List.map_cons, List.find?_cons, List.find?_cons]
    by_cases c : q.1 = k
    · simp [c]
    · have c2 : ¬ kx q.1 = kx k := fun z => c (inj z)
      simp only [c, c2, decide_false]
      exact ih
theorem enc_any (tb : Tb α) (k : α) : ((enc kx tb).any fun kv => decide (kv.1 = kx k)) = tb.any fun q => decide (q.1 = k) := by
  unfold enc
  rw [List.any_map]
  congr 1
  funext q
  show decide (kx q.1 = kx k) = decide (q.1 = k)
  rw [decide_eq_decide]
  exact ⟨fun z => inj z, fun z => by rw [z]⟩
theorem enc_put (tb : Tb α) (k : α) (v : Int) : putD (enc kx tb) (kx k) (.int v) = enc kx (putI tb k v) := by
  unfold putD putI
  rw [enc_any inj]
  split
  · unfold enc
    rw [List.map_map, List.map_map]
    congr 1
    funext q
    by_cases c : q.1 = k
    · simp [c]
    · have c2 : ¬ kx q.1 = kx k := fun z => c (inj z)
      simp [c, c2]
  · unfold enc
    rw [List.map_append]
    rfl
theorem enc_drop (tb : Tb α) (k : α) : dropD (enc kx tb) (kx k) = enc kx (dropI tb k) := by
  unfold dropD dropI enc
  rw [List.filter_map]
  congr 1
  congr 1
  funext q
  show decide (kx q.1 ≠ kx k) = decide (q.1 ≠ k)
  rw [decide_eq_decide]
  exact ⟨fun h z => h (by rw [z]), fun h z => h (inj z)⟩
omit inj
theorem enc_length (tb : Tb α) : (enc kx tb).length = tb.length := by unfold enc; rw [List.length_map]
theorem dropI_le (tb : Tb α) (k : α) : (dropI tb k).length ≤ tb.length := List.length_filter_le _ _
theorem putI_le (tb : Tb α) (k : α) (v : Int) : (putI tb k v).length ≤ tb.length + 1 := by
  unfold putI
  split
  · rw [List.length_map]; omega
  · rw [List.length_append]; simp
theorem bump_le (tb : Tb α) (k : α) (v : Int) : (bump tb k v).length ≤ tb.length + 1 := by
  unfold bump
  split
  · exact Nat.le_succ_of_le (dropI_le _ _)
  · exact putI_le _ _ _
/-! what they hold -/
theorem getI_put (tb : Tb α) (k j : α) (v : Int) : getI (putI tb k v) j = if j = k then some v else getI tb j := by
  unfold putI
  split
  · rename_i h
    induction tb with
    | nil => simp at h
    | cons q tb ih =>
      unfold getI at *
      rw [List.map_cons, List.find?_cons, List.find?_cons]
      by_cases c : q.1 = k
      · rw [if_pos c]
        by_cases e : j = k
        · subst e
          simp [c]
        · have c3 : ¬ q.1 = j := fun z => e (z.symm.trans c)
          simp only [c3, decide_false, if_neg e]
          by_cases h2 : (tb.any fun q => decide (q.1 = k)) = true
          · have := ih h2
            rw [if_neg e] at this
            exact this
          · have nk : ∀ q ∈ tb, ¬ q.1 = k := fun q hq z => h2 (List.any_eq_true.mpr ⟨q, hq, by simp [z]⟩)
            have : tb.map (fun q => if q.1 = k then (q.1, v) else q) = tb := by
              conv => rhs; rw [← List.map_id tb]
              exact List.map_congr_left fun q hq => by rw [if_neg (nk q hq)]; rfl
            rw [this]
      · rw [if_neg c]
        have h2 : (tb.any fun q => decide (q.1 = k)) = true := by simpa [c] using h
        have ih := ih h2
        by_cases e : q.1 = j
        · simp only [e, decide_true]
          rw [if_neg (fun z => c (e.trans z))]
        · simp only [e, decide_false]
          exact ih
  · rename_i h
    have nk : ∀ q ∈ tb, ¬ q.1 = k := fun q hq z => h (List.any_eq_true.mpr ⟨q, hq, by simp [z]⟩)
    unfold getI
    rw [List.find?_append]
    by_cases e : j = k
    · subst e
      have : tb.find? (fun q => decide (q.1 = j)) = none := List.find?_eq_none.mpr fun q hq => by simp [nk q hq]
      rw [this]
      simp
    · rw [if_neg e]
      have : ([(k, v)] : Tb α).find? (fun q => decide (q.1 = j)) = none := List.find?_eq_none.mpr fun q hq => by
        simp at hq
        rw [hq]
        simp [Ne.symm e]
      rw [this]
      simp
theorem getI_drop (tb : Tb α) (k j : α) : getI (dropI tb k) j = if j = k then none else getI tb j := by
  unfold dropI
  induction tb with
  | nil => simp [getI]
  | cons q tb ih =>
    by_cases c : q.1 = k
    · rw [List.filter_cons_of_neg (by simp [c]), ih]
      by_cases e : j = k
      · rw [if_pos e, if_pos e]
      · rw [if_neg e, if_neg e]
        unfold getI
        rw [List.find?_cons]
        have : ¬ q.1 = j := fun z => e (z.symm.trans c)
        simp [this]
    · rw [List.filter_cons_of_pos (by simp [c])]
      unfold getI at *
      rw [List.find?_cons, List.find?_cons]
      by_cases e : q.1 = j
      · simp only [e, decide_true]
        rw [if_neg (fun z => c (e.trans z))]
      · simp only [e, decide_false]
        exact ih
/-- every key stands once -/
def Nd (tb : Tb α) : Prop := (tb.map (·.1)).Nodup
theorem Nd.drop {tb : Tb α} (h : Nd tb) (k : α) : Nd (dropI tb k) := List.Nodup.sublist (List.Sublist.map _ List.filter_sublist) h
theorem Nd.put {tb : Tb α} (h : Nd tb) (k : α) (v : Int) : Nd (putI tb k v) := by
  unfold putI
  split
  · unfold Nd at *
    rw [List.map_map]
    have : (fun q : α × Int => (if q.1 = k then (q.1, v) else q).1) = fun q => q.1 := by
      funext q
      split <;> rfl
    rw [show ((fun x : α × Int => x.1) ∘ fun q => if q.1 = k then (q.1, v) else q) = fun q => q.1 from this]
    exact h
  · rename_i hn
    unfold Nd at *
    rw [List.map_append, List.nodup_append]
    refine ⟨h, by simp, fun a ha b hb => ?_⟩
    simp at hb
    rw [hb]
    intro z
    obtain ⟨q, hq, e⟩ := List.mem_map.mp ha
    exact hn (List.any_eq_true.mpr ⟨q, hq, by simp [e, z]⟩)
theorem Nd.bump {tb : Tb α} (h : Nd tb) (k : α) (v : Int) : Nd (bump tb k v) := by
  unfold Dl.bump
  split
  · exact h.drop k
  · exact h.put k _
theorem valI_bump (tb : Tb α) (k j : α) (v : Int) : valI (bump tb k v) j = valI tb j + if j = k then v else 0 := by
  unfold bump
  split
  · rename_i h
    show (getI (dropI tb k) j).getD 0 = _
    rw [getI_drop]
    by_cases e : j = k
    · subst e
      rw [if_pos rfl, if_pos rfl, h]
      rfl
    · rw [if_neg e, if_neg e, Int.add_zero]
      rfl
  · show (getI (putI tb k _) j).getD 0 = _
    rw [getI_put]
    by_cases e : j = k
    · subst e
      rw [if_pos rfl, if_pos rfl]
      rfl
    · rw [if_neg e, if_neg e, Int.add_zero]
      rfl
/-- no key holds 0 -/
def Nz (tb : Tb α) : Prop := ∀ q ∈ tb, q.2 ≠ 0
theorem Nz.bump {tb : Tb α} (h : Nz tb) (k : α) (v : Int) : Nz (bump tb k v) := by
  unfold Dl.bump
  split
  · exact fun q hq => h q (List.mem_filter.mp hq).1
  · rename_i hn
    unfold putI
    split
    · intro q hq
      obtain ⟨r, hr, e⟩ := List.mem_map.mp hq
      rw [← e]
      split
      · exact hn
      · exact h r hr
    · intro q hq
      rcases List.mem_append.mp hq with hq | hq
      · exact h q hq
      · simp at hq
        rw [hq]
        exact hn
theorem getI_mem {tb : Tb α} (h : Nd tb) {q : α × Int} (hq : q ∈ tb) : getI tb q.1 = some q.2 := by
  unfold getI
  induction tb with
  | nil => cases hq
  | cons r tb ih =>
    unfold Nd at h
    rw [List.map_cons, List.nodup_cons] at h
    rw [List.find?_cons]
    rcases List.mem_cons.mp hq with e | hq
    · subst e
      simp
    · have : ¬ r.1 = q.1 := fun z => h.1 (by rw [z]; exact List.mem_map_of_mem hq)
      simp only [this, decide_false]
      exact ih h.2 hq
theorem mem_getI {tb : Tb α} {k : α} {v : Int} (h : getI tb k = some v) : (k, v) ∈ tb := by
  unfold getI at h
  cases e : tb.find? fun q => decide (q.1 = k) with
  | none => rw [e] at h; cases h
  | some q =>
    rw [e] at h
    cases h
    have h1 := List.find?_some e
    simp at h1
    rw [← h1]
    exact List.mem_of_find?_eq_some e
/-- weighed sums -/
def wsum (p : α → Bool) (tb : Tb α) : Int := ((tb.filter fun q => p q.1).map (·.2)).sum
theorem wsum_nil (p : α → Bool) : wsum p ([] : Tb α) = 0 := rfl
theorem wsum_cons (p : α → Bool) (q : α × Int) (tb : Tb α) : wsum p (q :: tb) = (if p q.1 then q.2 else 0) + wsum p tb := by
  unfold wsum
  by_cases h : p q.1 = true
  · rw [List.filter_cons_of_pos (p := fun q : α × Int => p q.1) h, if_pos h, List.map_cons, List.sum_cons]
  · rw [List.filter_cons_of_neg (p := fun q : α × Int => p q.1) h, if_neg h, Int.zero_add]
theorem wsum_app (p : α → Bool) (xs ys : Tb α) : wsum p (xs ++ ys) = wsum p xs + wsum p ys := by
  unfold wsum
  rw [List.filter_append, List.map_append, List.sum_append]
theorem wsum_drop (p : α → Bool) {tb : Tb α} (h : Nd tb) (k : α) : wsum p (dropI tb k) = wsum p tb - if p k then valI tb k else 0 := by
  induction tb with
  | nil => simp [dropI, wsum, valI, getI]
  | cons q tb ih =>
    unfold Nd at h
    rw [List.map_cons, List.nodup_cons] at h
    have ih := ih h.2
    unfold dropI at *
    by_cases c : q.1 = k
    · have nk : ∀ r ∈ tb, ¬ r.1 = k := fun r hr z => h.1 (by rw [c, ← z]; exact List.mem_map_of_mem hr)
      rw [List.filter_cons_of_neg (by simp [c])]
      have e : tb.filter (fun q => decide (q.1 ≠ k)) = tb := List.filter_eq_self.mpr fun r hr => by simp [nk r hr]
      have e2 : valI (q :: tb) k = q.2 := by simp [valI, getI, c]
      rw [e, wsum_cons, e2, c]
      split <;> omega
    · rw [List.filter_cons_of_pos (by simp [c]), wsum_cons, wsum_cons, ih]
      have e2 : valI (q :: tb) k = valI tb k := by simp [valI, getI, c]
      rw [e2]
      omega
theorem wsum_put (p : α → Bool) {tb : Tb α} (h : Nd tb) (k : α) (v : Int) : wsum p (putI tb k v) = wsum p tb + if p k then v - valI tb k else 0 := by
  unfold putI
  split
  · rename_i hk
    induction tb with
    | nil => simp at hk
    | cons q tb ih =>
      unfold Nd at h
      rw [List.map_cons, List.nodup_cons] at h
      rw [List.map_cons, wsum_cons, wsum_cons]
      by_cases c : q.1 = k
      · have nk : ∀ r ∈ tb, ¬ r.1 = k := fun r hr z => h.1 (by rw [c, ← z]; exact List.mem_map_of_mem hr)
        have e : tb.map (fun q => if q.1 = k then (q.1, v) else q) = tb := by
          conv => rhs; rw [← List.map_id tb]
          exact List.map_congr_left fun q hq => by rw [if_neg (nk q hq)]; rfl
        have e2 : valI (q :: tb) k = q.2 := by simp [valI, getI, c]
        rw [e, if_pos c, e2, c]
        split <;> omega
      · have hk' : (tb.any fun q => decide (q.1 = k)) = true := by simpa [c] using hk
        have ih := ih h.2 hk'
        have e2 : valI (q :: tb) k = valI tb k := by simp [valI, getI, c]
        rw [if_neg c, ih, e2]
        omega
  · rename_i hn
    have nk : tb.find? (fun q => decide (q.1 = k)) = none := List.find?_eq_none.mpr fun q hq z => hn (List.any_eq_true.mpr ⟨q, hq, z⟩)
    have e : valI tb k = 0 := by simp [valI, getI, nk]
    rw [wsum_app, wsum_cons, wsum_nil, e]
    simp
theorem wsum_bump (p : α → Bool) {tb : Tb α} (h : Nd tb) (k : α) (v : Int) : wsum p (bump tb k v) = wsum p tb + if p k then v else 0 := by
  unfold bump
  split
  · rename_i e
    rw [wsum_drop p h]
    split <;> omega
  · rw [wsum_put p h]
    split <;> omega
end
section
variable {μ : Mu} {a : Addr} {i j v : Int} {tb : Tb Int} {tp : Tb (Int × Int)} {R : Option D → Prop} {T : D → Prop} {Q : Mu → Prop}
theorem valI_getD {α : Type} [DecidableEq α] (tb : Tb α) (k : α) : ((getI tb k).map D.int).getD (D.int 0) = D.int (valI tb k) := by
  unfold valI
  cases getI tb k <;> rfl
theorem some_of_val {α : Type} [DecidableEq α] {tb : Tb α} {k : α} (h : valI tb k ≠ 0) : (getI tb k).isSome = true := by
  unfold valI at h
  cases e : getI tb k with
  | none => rw [e] at h; exact absurd rfl h
  | some z => rfl
theorem rd_getI (h : μ a = some (.dK (enc kI tb))) (q : R ((getI tb i).map D.int)) : ∃ o, GetD μ (.at a) (.int i) o ∧ R o := rd_getK h (by rw [show (Sum.inl i : Key) = kI i from rfl, enc_at kI_inj]; exact q)
theorem rd_getP (h : μ a = some (.dT (enc kP tp))) (q : R ((getI tp (i, j)).map D.int)) : ∃ o, GetD μ (.at a) (.tup [.int i, .int j]) o ∧ R o := rd_getT (k := kP (i, j)) h rfl (by rw [enc_at kP_inj]; exact q)
theorem rd_putI (h : μ a = some (.dK (enc kI tb))) (hs : tb.length ≤ 1000000) (q : Q (put μ a (.dK (enc kI (putI tb i v))))) : PutD μ (.at a) (.int i) (.int v) Q := rd_putK h (by rw [enc_length]; exact hs) (by rw [show (Sum.inl i : Key) = kI i from rfl, enc_put kI_inj]; exact q)
theorem rd_putP (h : μ a = some (.dT (enc kP tp))) (hs : tp.length ≤ 1000000) (q : Q (put μ a (.dT (enc kP (putI tp (i, j) v))))) : PutD μ (.at a) (.tup [.int i, .int j]) (.int v) Q := rd_putT (k := kP (i, j)) h rfl (by rw [enc_length]; exact hs) (by rw [enc_put kP_inj]; exact q)
theorem rd_dropI (h : μ a = some (.dK (enc kI tb))) (hs : (getI tb i).isSome = true) (q : Q (put μ a (.dK (enc kI (dropI tb i))))) : DelD μ (.at a) (.int i) Q := rd_delK h (by rw [show (Sum.inl i : Key) = kI i from rfl, enc_at kI_inj, Option.isSome_map]; exact hs) (by rw [show (Sum.inl i : Key) = kI i from rfl, enc_drop kI_inj]; exact q)
theorem rd_dropP (h : μ a = some (.dT (enc kP tp))) (hs : (getI tp (i, j)).isSome = true) (q : Q (put μ a (.dT (enc kP (dropI tp (i, j)))))) : DelD μ (.at a) (.tup [.int i, .int j]) Q := rd_delT (k := kP (i, j)) h rfl (by rw [enc_at kP_inj, Option.isSome_map]; exact hs) (by rw [enc_drop kP_inj]; exact q)
theorem rd_dgetI (h : μ a = some (.dK (enc kI tb))) (hv : getI tb i = some v) (q : T (.int v)) : ∃ v, GetD μ (.at a) (.int i) (some v) ∧ T v := rd_dgetK (v := .int v) h (by rw [show (Sum.inl i : Key) = kI i from rfl, enc_at kI_inj, hv]; rfl) q
theorem rd_dgetP (h : μ a = some (.dT (enc kP tp))) (hv : getI tp (i, j) = some v) (q : T (.int v)) : ∃ v, GetD μ (.at a) (.tup [.int i, .int j]) (some v) ∧ T v := rd_dgetT (k := kP (i, j)) (v := .int v) h rfl (by rw [enc_at kP_inj, hv]; rfl) q
end
end Dl
namespace Dl
open PySem PySem.Spec PyProof.Rows L2
/-! ### pairs of whole numbers, sorted -/
abbrev Sp2 := Int × Int
/-- a pair as data -/
def spD (s : Sp2) : D := .tup [.int s.1, .int s.2]
def leP (p q : Sp2) : Bool := decide (p.1 < q.1 ∨ (p.1 = q.1 ∧ p.2 ≤ q.2))
def sortP (S : List Sp2) : List Sp2 := S.mergeSort leP
theorem leP_trans (a b c : Sp2) (h : leP a b = true) (g : leP b c = true) : leP a c = true := by
  simp only [leP, decide_eq_true_eq] at *
  omega
theorem leP_total (a b : Sp2) : (leP a b || leP b a) = true := by
  simp only [leP, Bool.or_eq_true, decide_eq_true_eq]
  omega
theorem leP_anti {a b : Sp2} (h : leP a b = true) (g : leP b a = true) : a = b := by
  obtain ⟨a1, a2⟩ := a
  obtain ⟨b1, b2⟩ := b
  simp only [leP, decide_eq_true_eq] at *
  ext <;> simp <;> omega
theorem leP_refl (a : Sp2) : leP a a = true := by simp [leP]
theorem sortP_pw (S : List Sp2) : (sortP S).Pairwise fun a b => leP a b = true := List.pairwise_mergeSort leP_trans leP_total S
theorem sortP_perm (S : List Sp2) : (sortP S).Perm S := List.mergeSort_perm S leP
theorem sortP_len (S : List Sp2) : (sortP S).length = S.length := (sortP_perm S).length_eq
theorem sortP_eq {S T : List Sp2} (h : T.Pairwise fun a b => leP a b = true) (p : T.Perm S) : T = sortP S :=
  List.Perm.eq_of_pairwise (le := fun a b => leP a b = true) (fun a b _ _ => leP_anti) h (sortP_pw S) (p.trans (sortP_perm S).symm)
theorem rs_sp {μ : Mu} (s : Sp2) : Rs μ (spD s) (.tuple [.int s.1, .int s.2]) := .tup (.cons (.int _) (.cons (.int _) .nil))
theorem pyD_sp (s : Sp2) : pyD (spD s) = .tuple [.int s.1, .int s.2] := by simp [spD, pyD, pyDs]
theorem depth_sp (s : Sp2) : (PyData.tuple [.int s.1, .int s.2]).depth ≤ 2 := by simp [PyData.depth, PyData.depthAll]
theorem le_pyD : (fun p q : Sp2 => PySem.W.dataLe false pyD (spD p) (spD q)) = leP := by
  have h := PySem.W.dataLe_ii (β := Sp2) (fun s => s.1) (fun s => s.2)
  funext p q
  have e : PySem.W.dataLe false pyD (spD p) (spD q) = PySem.W.dataLe false (fun b : Sp2 => pyD (spD b)) p q := rfl
  rw [e]
  have e2 : (fun b : Sp2 => pyD (spD b)) = fun b : Sp2 => .tuple [.int b.1, .int b.2] := by
    funext b
    exact pyD_sp b
  rw [e2, h]
  rfl
theorem sort_sp (S : List Sp2) : (S.map spD).mergeSort (PySem.W.dataLe false pyD) = (sortP S).map spD := by
  unfold sortP
  rw [← List.map_mergeSort (r := leP) (s := PySem.W.dataLe false pyD) (f := spD) fun a _ b _ => (congrFun (congrFun le_pyD a) b).symm]
theorem alike_sp (S : List Sp2) : PySem.W.AllAlike ((S.map spD).map pyD) := by
  intro d hd d' hd'
  simp only [List.map_map, List.mem_map, Function.comp] at hd hd'
  obtain ⟨s, _, rfl⟩ := hd
  obtain ⟨s', _, rfl⟩ := hd'
  rw [pyD_sp, pyD_sp]
  rfl
section
variable {μ : Mu} {a r : Addr} {m : Bool} {Q : DQ}
theorem rd_sortedP {tb : Tb Sp2} (h : μ a = some (.dT (enc kP tb))) (hl : tb.length ≤ 1000000) (q : New m ((sortP (tb.map (·.1))).map spD) μ Q) : fSortedT m [.at a] μ Q := by
  have e : (enc kP tb).map (fun q => keyT q.1) = (tb.map (·.1)).map spD := by
    unfold enc
    rw [List.map_map, List.map_map]
    rfl
  refine ⟨a, enc kP tb, rfl, h, fun q hq => ?_, ?_, by rw [enc_length]; exact hl, ?_⟩
  · obtain ⟨r, _, rfl⟩ := List.mem_map.mp hq
    exact List.cons_ne_nil _ _
  · rw [e]
    exact alike_sp _
  · rw [e, sort_sp]
    exact q
theorem sortable_sp (S : List Sp2) : PySem.W.Sortable ((S.map spD).map pyD) := by
  refine .inl fun d hd => ?_
  simp only [List.map_map, List.mem_map, Function.comp] at hd
  obtain ⟨s, _, rfl⟩ := hd
  rw [pyD_sp]
  exact ⟨_, _, rfl⟩
theorem rd_sortedL {S : List Sp2} (h : μ r = some (.lst (S.map spD))) (hl : S.length ≤ 1000000) (q : New m ((sortP S).map spD) μ Q) : fSorted m [.at r] μ Q := by
  refine ⟨.at r, S.map spD, rfl, .inl h, fun x hx => ?_, alike_sp S, sortable_sp S, by rw [List.length_map]; exact hl, ?_⟩
  · obtain ⟨s, _, rfl⟩ := List.mem_map.mp hx
    rw [pyD_sp]
    exact ⟨rs_sp s, Nat.le_trans (depth_sp s) (by decide)⟩
  · rw [sort_sp]
    exact q
end
/-! ### what a list of pairs reads as -/
def pP (s : Sp2) : PyData := .tuple [.int s.1, .int s.2]
theorem rss_sp {μ : Mu} (S : List Sp2) : Rss μ (S.map spD) (S.map pP) := Rss.map fun s _ => rs_sp s
/-! ### a table of counts, told one by one -/
/-- every key as often as it is counted, in order -/
def spansOf (tb : Tb Sp2) : List Sp2 := (sortP (tb.map (·.1))).flatMap fun s => List.replicate (valI tb s).toNat s
theorem count_flatMap_rep (f : Sp2 → Nat) : ∀ (ks : List Sp2) (s : Sp2), ks.Nodup → (ks.flatMap fun k => List.replicate (f k) k).count s = if s ∈ ks then f s else 0
  | [], s, _ => by simp
  | k :: ks, s, h => by
    rw [List.nodup_cons] at h
    rw [List.flatMap_cons, List.count_append, count_flatMap_rep f ks s h.2, List.count_replicate]
    by_cases e : k = s
    · subst e
      simp [h.1]
    · have e2 : ¬ s = k := fun z => e z.symm
      simp [e, e2]
theorem pw_flatMap_rep (f : Sp2 → Nat) : ∀ (ks : List Sp2), (ks.Pairwise fun a b => leP a b = true) → (ks.flatMap fun k => List.replicate (f k) k).Pairwise fun a b => leP a b = true
  | [], _ => .nil
  | k :: ks, h => by
    rw [List.pairwise_cons] at h
    rw [List.flatMap_cons, List.pairwise_append]
    refine ⟨List.pairwise_replicate.mpr (.inr (leP_refl k)), pw_flatMap_rep f ks h.2, fun a ha b hb => ?_⟩
    rw [List.mem_replicate] at ha
    obtain ⟨c, hc, hb⟩ := List.mem_flatMap.mp hb
    rw [List.mem_replicate] at hb
    rw [ha.2, hb.2]
    exact h.1 c hc
/-- the counts tell the list S -/
structure Cnt (tb : Tb Sp2) (S : List Sp2) : Prop where
  nd : Nd tb
  nz : Nz tb
  val : ∀ s, valI tb s = (S.count s : Int)
theorem Cnt.nil : Cnt [] [] := ⟨List.nodup_nil, fun q hq => (by cases hq), fun s => by simp [valI, getI]⟩
theorem Cnt.add {tb : Tb Sp2} {S : List Sp2} (h : Cnt tb S) (s : Sp2) : Cnt (bump tb s 1) (S ++ [s]) := ⟨h.nd.bump s 1, h.nz.bump s 1, fun t => by
  rw [valI_bump, h.val, List.count_append, List.count_singleton]
  by_cases e : t = s
  · subst e
    simp
  · have e2 : ¬ s = t := fun z => e z.symm
    simp [e, e2]⟩
theorem Cnt.spans {tb : Tb Sp2} {S : List Sp2} (h : Cnt tb S) : spansOf tb = sortP S := by
  refine sortP_eq (pw_flatMap_rep _ _ (sortP_pw _)) ?_
  rw [List.perm_iff_count]
  intro s
  have nd : (sortP (tb.map (·.1))).Nodup := (sortP_perm _).nodup_iff.mpr h.nd
  rw [show spansOf tb = (sortP (tb.map (·.1))).flatMap fun s => List.replicate (valI tb s).toNat s from rfl] at *
  rw [count_flatMap_rep _ _ s nd]
  split
  · rw [h.val]
    omega
  · rename_i hn
    have e : getI tb s = none := by
      cases e : getI tb s with
      | none => rfl
      | some v => exact absurd ((sortP_perm _).mem_iff.mpr (List.mem_map.mpr ⟨_, mem_getI e, rfl⟩)) hn
    have := h.val s
    unfold valI at this
    rw [e] at this
    simp at this
    omega
theorem Cnt.size {tb : Tb Sp2} {S : List Sp2} (h : Cnt tb S) : tb.length ≤ S.length := by
  have h1 : (tb.map (·.1)).length ≤ S.length := by
    have nd : (tb.map (·.1)).Nodup := h.nd
    have sub : ∀ s ∈ tb.map (·.1), s ∈ S := fun s hs => by
      obtain ⟨q, hq, rfl⟩ := List.mem_map.mp hs
      have g := getI_mem h.nd hq
      have v := h.val q.1
      unfold valI at v
      rw [g] at v
      simp at v
      have nz := h.nz q hq
      exact List.count_pos_iff.mp (by omega)
    exact List.Nodup.length_le_of_subset nd fun s hs => sub s hs
  rwa [List.length_map] at h1
theorem Cnt.get {tb : Tb Sp2} {S : List Sp2} (h : Cnt tb S) {s : Sp2} (hs : s ∈ tb.map (·.1)) : getI tb s = some (S.count s : Int) := by
  obtain ⟨q, hq, rfl⟩ := List.mem_map.mp hs
  have g := getI_mem h.nd hq
  have v := h.val q.1
  unfold valI at v
  rw [g] at v
  rw [g, ← v]
  rfl
/-! ### ends that rise and fall -/
def crossP (m : Int) (s : Sp2) : Bool := decide (s.1 ≤ m) && decide (m < s.2)
def riseOf (rs : Tb Int) (s : Sp2) : Tb Int := if s.1 < s.2 then bump (bump rs s.1 1) s.2 (-1) else rs
structure Rise (rs : Tb Int) (S : List Sp2) : Prop where
  nd : Nd rs
  nz : Nz rs
  sum : ∀ m, wsum (fun e => decide (e ≤ m)) rs = ((S.filter (crossP m)).length : Int)
  size : rs.length ≤ 2 * S.length
theorem Rise.nil : Rise [] [] := ⟨List.nodup_nil, fun q hq => (by cases hq), fun m => rfl, Nat.le_refl _⟩
theorem Rise.add {rs : Tb Int} {S : List Sp2} (h : Rise rs S) (s : Sp2) : Rise (riseOf rs s) (S ++ [s]) := by
  unfold riseOf
  split
  · rename_i hlt
    refine ⟨(h.nd.bump _ _).bump _ _, (h.nz.bump _ _).bump _ _, fun m => ?_, ?_⟩
    · rw [wsum_bump _ (h.nd.bump _ _), wsum_bump _ h.nd, h.sum, List.filter_append, List.length_append]
      by_cases c : crossP m s = true
      · rw [List.filter_cons_of_pos c]
        simp [crossP] at c ⊢
        omega
      · rw [List.filter_cons_of_neg c]
        simp [crossP] at c ⊢
        by_cases c1 : s.1 ≤ m
        · have := c c1
          simp [c1, this]
          omega
        · have : ¬ s.2 ≤ m := by omega
          simp [c1, this]
    · have a := bump_le (bump rs s.1 1) s.2 (-1)
      have b := bump_le rs s.1 1
      have := h.size
      simp
      omega
  · rename_i hlt
    refine ⟨h.nd, h.nz, fun m => ?_, ?_⟩
    · rw [h.sum, List.filter_append]
      have c : ¬ crossP m s = true := by simp [crossP]; omega
      rw [List.filter_cons_of_neg c]
      simp
    · have := h.size
      simp
      omega
end Dl
namespace Dl
open PySem PySem.Spec PyProof.Rows L2
/-! ### what repr shows -/
/-- p may be shown: its leaves are short, its weight is at most n, its depth at most k -/
structure Shw (p : PyData) (n k : Nat) : Prop where
  sh : p.showable = true
  ls : p.leavesShort 41 = true
  w : p.weight ≤ n
  dp : p.depth ≤ k
theorem Shw.int {i : Int} (h : i.natAbs < 10 ^ 40) : Shw (.int i) 134 1 := by
  have hlg : i.natAbs.log2 < 133 := by
    by_cases h0 : i.natAbs = 0
    · rw [h0]; decide
    · exact (Nat.log2_lt h0).mpr (by omega)
  refine ⟨?_, ?_, ?_, ?_⟩
  · simp only [PyData.showable, decide_eq_true_eq]
    omega
  · simp only [PyData.leavesShort, decide_eq_true_eq]
    show (Str.ofString (toString i)).length ≤ 41
    rw [PyProof.Rows.ofString_length]
    exact int_text_length_le10 (k := 40) (by decide) h
  · simp only [PyData.weight]
    split <;> omega
  · simp [PyData.depth]
theorem Shw.bool (b : Bool) : Shw (.bool b) 0 1 := ⟨rfl, rfl, Nat.le_refl _, by simp [PyData.depth]⟩
theorem Shw.none : Shw .none 0 1 := ⟨rfl, rfl, Nat.le_refl _, by simp [PyData.depth]⟩
theorem shw_all {n k : Nat} : ∀ {xs : List PyData}, (∀ x ∈ xs, Shw x n k) → PyData.showableAll xs = true ∧ PyData.leavesShortAll 41 xs = true ∧ PyData.weightAll xs ≤ (n + 1) * xs.length ∧ PyData.depthAll xs ≤ k
  | [], _ => ⟨rfl, rfl, Nat.zero_le _, Nat.zero_le _⟩
  | x :: xs, h => by
    obtain ⟨a, b, c, d⟩ := shw_all (xs := xs) fun y hy => h y (List.mem_cons_of_mem _ hy)
    have hx := h x List.mem_cons_self
    refine ⟨?_, ?_, ?_, ?_⟩
    · simp only [PyData.showableAll, hx.sh, a, Bool.and_self]
    · simp only [PyData.leavesShortAll, hx.ls, b, Bool.and_self]
    · simp only [PyData.weightAll, List.length_cons]
      have := hx.w
      rw [Nat.mul_add]
      omega
    · rw [PyData.depthAll]
      exact Nat.max_le.mpr ⟨hx.dp, d⟩
theorem Shw.list {n k : Nat} {xs : List PyData} (h : ∀ x ∈ xs, Shw x n k) : Shw (.list xs) ((n + 1) * xs.length) (k + 1) := by
  obtain ⟨a, b, c, d⟩ := shw_all h
  exact ⟨a, b, c, by rw [PyData.depth]; omega⟩
theorem Shw.tuple {n k : Nat} {xs : List PyData} (h : ∀ x ∈ xs, Shw x n k) : Shw (.tuple xs) ((n + 1) * xs.length) (k + 1) := by
  obtain ⟨a, b, c, d⟩ := shw_all h
  exact ⟨a, b, c, by rw [PyData.depth]; omega⟩
theorem Shw.mono {p : PyData} {n k n' k' : Nat} (h : Shw p n k) (hn : n ≤ n') (hk : k ≤ k') : Shw p n' k' := ⟨h.sh, h.ls, Nat.le_trans h.w hn, Nat.le_trans h.dp hk⟩
theorem Shw.pP {s : Sp2} (h1 : s.1.natAbs < 10 ^ 40) (h2 : s.2.natAbs < 10 ^ 40) : Shw (pP s) 270 2 :=
  (Shw.tuple (n := 134) (k := 1) (xs := [.int s.1, .int s.2]) (by
    intro x hx
    simp at hx
    rcases hx with rfl | rfl
    · exact .int h1
    · exact .int h2)).mono (by simp) (by omega)
theorem Shw.pPs {S : List Sp2} (h : ∀ s ∈ S, s.1.natAbs < 10 ^ 40 ∧ s.2.natAbs < 10 ^ 40) : Shw (.list (S.map Dl.pP)) (271 * S.length) 3 :=
  (Shw.list (n := 270) (k := 2) (xs := S.map Dl.pP) (by
    intro x hx
    obtain ⟨s, hs, rfl⟩ := List.mem_map.mp hx
    exact .pP (h s hs).1 (h s hs).2)).mono (by rw [List.length_map]; exact Nat.le_refl _) (by omega)
section
variable {μ : Mu} {Q : DQ} {d : D} {l : Addr} {i : Int}
theorem rd_repr {p : PyData} {n k : Nat} (r : Rs μ d p) (s : Shw p n k) (hk : k ≤ 60) (hn : n ≤ 380000) (q : Q (.str p.shown) μ) : fRepr [d] μ Q := by
  refine ⟨d, p, rfl, r, s.sh, Nat.le_trans s.dp hk, ?_, q⟩
  have h := PyData.shown_le 41 (by decide) p s.ls
  have h2 : (41 + 2) * p.weight ≤ 43 * 380000 := Nat.mul_le_mul (by omega) (Nat.le_trans s.w hn)
  rw [sizeLine_eq]
  omega
theorem rd_reprI (h : i.natAbs < 10 ^ 40) (q : Q (.str (PyData.int i).shown) μ) : fRepr [.int i] μ Q := rd_repr (.int i) (.int h) (by decide) (by decide) q
theorem rd_reprPa {S : List Sp2} (hl : μ l = some (.lst (S.map spD))) (h : ∀ s ∈ S, s.1.natAbs < 10 ^ 40 ∧ s.2.natAbs < 10 ^ 40) (hs : S.length ≤ 1000) (q : Q (.str (PyData.list (S.map pP)).shown) μ) : fRepr [.at l] μ Q := rd_repr (.at hl (rss_sp S)) (.pPs h) (by decide) (by omega) q
theorem rd_reprPl {S : List Sp2} (h : ∀ s ∈ S, s.1.natAbs < 10 ^ 40 ∧ s.2.natAbs < 10 ^ 40) (hs : S.length ≤ 1000) (q : Q (.str (PyData.list (S.map pP)).shown) μ) : fRepr [.lst (S.map spD)] μ Q := rd_repr (.lst (rss_sp S)) (.pPs h) (by decide) (by omega) q
theorem rd_rg {m : Bool} {n : Int} {ρ : Rho} (h : 0 ≤ n ∧ n ≤ 1000000) (q : New m ((List.range n.toNat).map fun i : Nat => .int i) μ Q) : wLstRg m (wC (.int n)) ρ μ Q := ⟨h.1, h.2, q⟩
end
theorem map_get {α β : Type} {f : α → β} {xs : List α} {i : Nat} {d : β} (h : (xs.map f)[i]? = some d) : ∃ x, x ∈ xs ∧ xs[i]? = some x ∧ d = f x := by
  rw [List.getElem?_map] at h
  cases e : xs[i]? with
  | none => rw [e] at h; cases h
  | some x =>
    rw [e] at h
    cases h
    exact ⟨x, List.mem_of_getElem? e, rfl, rfl⟩
end Dl
namespace Dl
open PySem PySem.Spec PyProof.Rows L2
variable {B : Bs}
/-- a mid condition behind a statement -/
def wCut (a b : WS) : WS := fun DD ρ μ => ∃ M : Rho → Mu → Prop, a { nx := M, rt := DD.rt, bk := DD.bk, ct := DD.ct } ρ μ ∧ ∀ ρ' μ', M ρ' μ' → b DD ρ' μ'
theorem jss_cut {X : Cx} {st : Stmt} {rest : List Stmt} {a b : WS} (h1 : JS B X st a) (h2 : JSs B X rest b) : JSs B X (st :: rest) (wCut a b) := PSs.of (pss_cons h1 h2) fun E σ H ⟨ρ, μ, DD, rs, m, ⟨M, h, k⟩, l⟩ =>
  ⟨ρ, μ, _, rs, m, h, ⟨fun σ' H' ρ' μ' s r m' q => ⟨ρ', μ', DD, r, m', k _ _ q, l.step s⟩, l.rt, l.bk, l.ct⟩⟩
theorem wCut_eq {a b : WS} {DD : Ed} {ρ : Rho} {μ : Mu} : wCut a b DD ρ μ = ∃ M : Rho → Mu → Prop, a { nx := M, rt := DD.rt, bk := DD.bk, ct := DD.ct } ρ μ ∧ ∀ ρ' μ', M ρ' μ' → b DD ρ' μ' := rfl
theorem CalD.fn {P : Program} {w : World} {K : Frg} {mg : Str → Option Value} {base : Heap} {k : Nat} {x : Str} {st : Stmt} {ps : List Str} {sp : SpD} {f : Addr} {fd : FuncData} {oc : Value} {od : Option Addr} {sl : Array (Option Value)} (c : CalD P w K mg base k x st ps sp) (e : mg x = some (.ref f))
    (l : K.lookup f = some ⟨oc, od, .func fd, sl⟩) : FnG P w K mg base k f fd ps sp := by
  obtain ⟨f', fd', F, ⟨⟨oc', od', kV, doc, pm, an, cdv, ct, osl, e1, lk, _⟩, _⟩, e2⟩ := c.ex
  rw [e] at e2
  cases e2
  rw [l] at lk
  cases lk
  exact F
end Dl
namespace Dl
open PySem PySem.Spec PyProof.Rows L2
variable {B : Bs}
/-! ### name += e of whole numbers -/
def wAug (i : Nat) (g : Int → Int → Int) (a : WE) : WS := fun DD ρ μ => ∃ x, ρ[i]? = some (some (.int x)) ∧ a ρ μ fun d μ1 => ∃ y, d = .int y ∧ DD.nx (ρ.set i (some (.int (g x y)))) μ1
theorem js_aug {X : Cx} (i : Nat) {x : Str} {e : Expr} {w : WE} {op : Operator} {g : Int → Int → Int} {pos pos' : Pos} (ho : PIp X op (ipI fun i j => g i j)) (he : JE B X e w) (hN : X.N.Nodup) (hi : X.N[i]? = some x := by rfl) (hx : Loc X.env.scope x := by first | exact Or.inl rfl | exact Or.inr rfl)
    (hf : X.fn x = true ∨ X.env.scope.names.lookup x = some .local := by first | exact .inl rfl | exact .inr rfl) : JS B X (.AugAssign (.Name x pos') op e pos) (wAug i g w) := PS.of (ps_aug hN hi hx he ho hf) fun E σ H ⟨ρ, μ, DD, rs, m, ⟨x, ex, h⟩, l⟩ => by
  obtain ⟨v, e1, q⟩ := rs.2.1 i _ ex
  refine ⟨v, e1, up_mk rs m h fun u H1 d μ1 s1 m1 v1 ⟨y, ed, h1⟩ => ?_⟩
  subst ed
  exact ⟨x, y, q, v1, l.nx _ H1 _ μ1 s1 ((rs.step s1).set i (d := .int (g x y)) (v := .int (g x y)) rfl) m1 h1⟩
theorem rd_aug {R : Int → Prop} {ρ : Rho} {i : Nat} {x : Int} (h : ρ[i]? = some (some (.int x))) (q : R x) : ∃ x, ρ[i]? = some (some (.int x)) ∧ R x := ⟨x, h, q⟩
theorem rd_isInt {R : Int → Prop} {x : Int} (q : R x) : ∃ y, D.int x = .int y ∧ R y := ⟨x, rfl, q⟩
/-! ### sorted(d), whole numbers as keys; sorted(a list of whole numbers) -/
def fSortedI (m : Bool) : FN := fun ds μ Q => ∃ p tb, ds = [.at p] ∧ μ p = some (.dK (enc kI tb)) ∧ tb.length < 64 ∧ ∀ ys : List Int, ys.Perm (tb.map (·.1)) → ys.Pairwise (· ≤ ·) → New m (ys.map .int) μ Q
theorem cd_sortedI {X : Cx} (m : Bool) (hc : X.calm = true) : CallR X (.builtin "sorted") (upFN (fSortedI m)) := CallR.of (call_sortedDI hc) fun xs H Q ⟨ds, μ, QD, v, mh, ⟨p, tb, e, h1, h2, h3⟩, k⟩ => by
  subst e
  obtain ⟨v1, vs, rfl, r1, e⟩ := v
  rw [show vs = [] from e, show v1 = V.ref p from r1]
  obtain ⟨ks, e1, kd⟩ := mh p _ h1
  refine ⟨p, ks, tb.map (·.1), rfl, .inl e1, ?_, by rw [List.length_map]; exact h2, fun ys a hy1 hy2 ha => k _ _ (lft_new mh ?_ ha (h3 ys hy1 hy2))⟩
  · have key : ∀ {xs : List (Key × D)} {ys : List (Key × V)}, KD (MD μ) H xs ys → ys.map (·.1) = xs.map (·.1) := by
      intro xs ys h
      induction h with
      | nil => rfl
      | cons r t ih => rw [List.map_cons, List.map_cons, ih, r.1]
    rw [key kd]
    unfold enc
    rw [List.map_map, List.map_map]
    rfl
  · exact vds_ints ys
theorem rd_sortedI {m : Bool} {p : Addr} {tb : Tb Int} {μ : Mu} {Q : DQ} (h : μ p = some (.dK (enc kI tb))) (hl : tb.length < 64) (q : ∀ ys : List Int, ys.Perm (tb.map (·.1)) → ys.Pairwise (· ≤ ·) → New m (ys.map .int) μ Q) : fSortedI m [.at p] μ Q := ⟨p, tb, rfl, h, hl, q⟩
def leI (a b : Int) : Bool := decide (a ≤ b)
def sortI (ns : List Int) : List Int := ns.mergeSort leI
theorem sortI_pw (S : List Int) : (sortI S).Pairwise fun a b => a ≤ b := (List.pairwise_mergeSort (le := leI) (fun a b c h g => by simp [leI] at *; omega) (fun a b => by simp [leI]; omega) S).imp fun h => by simpa [leI] using h
theorem sortI_perm (S : List Int) : (sortI S).Perm S := List.mergeSort_perm S leI
/-! ### comprehensions with a drawn item a turn -/
end Dl
namespace Dl
open PySem PySem.Spec PyProof.Rows L2
/-! ### spans taken out -/
theorem Cnt.del {tb : Tb Sp2} {S S' : List Sp2} {s : Sp2} (h : Cnt tb S) (p : S.Perm (s :: S')) : Cnt (bump tb s (-1)) S' := ⟨h.nd.bump s _, h.nz.bump s _, fun t => by
  rw [valI_bump, h.val, p.count_eq t, List.count_cons]
  by_cases e : t = s
  · subst e
    simp
    omega
  · have e2 : ¬ s = t := fun z => e z.symm
    simp [e, e2]⟩
def riseOff (rs : Tb Int) (s : Sp2) : Tb Int := if s.1 < s.2 then bump (bump rs s.1 (-1)) s.2 (- -1) else rs
/-- how many cross the level m -/
def cr (S : List Sp2) (m : Int) : Nat := (S.filter (crossP m)).length
theorem cr_perm {S T : List Sp2} (p : S.Perm T) (m : Int) : cr S m = cr T m := (p.filter _).length_eq
theorem cr_cons (s : Sp2) (S : List Sp2) (m : Int) : cr (s :: S) m = (if s.1 ≤ m ∧ m < s.2 then 1 else 0) + cr S m := by
  unfold cr
  by_cases c : crossP m s = true
  · rw [List.filter_cons_of_pos c]
    simp [crossP] at c
    rw [if_pos c]
    simp
    omega
  · rw [List.filter_cons_of_neg c]
    simp [crossP] at c
    rw [if_neg (by omega)]
    omega
/-- the sums alone (a table that shrinks may be long) -/
structure RiseS (rs : Tb Int) (S : List Sp2) : Prop where
  nd : Nd rs
  nz : Nz rs
  sum : ∀ m, wsum (fun e => decide (e ≤ m)) rs = (cr S m : Int)
theorem Rise.s {rs : Tb Int} {S : List Sp2} (h : Rise rs S) : RiseS rs S := ⟨h.nd, h.nz, h.sum⟩
theorem RiseS.nil : RiseS [] [] := Rise.nil.s
theorem RiseS.add {rs : Tb Int} {S : List Sp2} (h : RiseS rs S) (s : Sp2) : RiseS (riseOf rs s) (S ++ [s]) := by
  have pm : (S ++ [s]).Perm (s :: S) := List.perm_append_comm
  unfold riseOf
  split
  · rename_i hlt
    refine ⟨(h.nd.bump _ _).bump _ _, (h.nz.bump _ _).bump _ _, fun m => ?_⟩
    rw [wsum_bump _ (h.nd.bump _ _), wsum_bump _ h.nd, h.sum, cr_perm pm, cr_cons]
    simp only [decide_eq_true_eq]
    split <;> split <;> split <;> omega
  · rename_i hlt
    refine ⟨h.nd, h.nz, fun m => ?_⟩
    rw [h.sum, cr_perm pm, cr_cons, if_neg (by omega)]
    omega
theorem RiseS.del {rs : Tb Int} {S S' : List Sp2} {s : Sp2} (h : RiseS rs S) (p : S.Perm (s :: S')) : RiseS (riseOff rs s) S' := by
  unfold riseOff
  split
  · rename_i hlt
    refine ⟨(h.nd.bump _ _).bump _ _, (h.nz.bump _ _).bump _ _, fun m => ?_⟩
    rw [wsum_bump _ (h.nd.bump _ _), wsum_bump _ h.nd, h.sum, cr_perm p, cr_cons]
    simp only [decide_eq_true_eq]
    split <;> split <;> split <;> omega
  · rename_i hlt
    refine ⟨h.nd, h.nz, fun m => ?_⟩
    rw [h.sum, cr_perm p, cr_cons, if_neg (by omega)]
    omega
/-- a level holds a sum: every key of the table is an end of a span -/
theorem RiseS.key {rs : Tb Int} {S : List Sp2} (h : RiseS rs S) {q : Int × Int} (hq : q ∈ rs) : ∃ s ∈ S, s.1 = q.1 ∨ s.2 = q.1 := by
  have step : wsum (fun e => decide (e ≤ q.1)) rs = wsum (fun e => decide (e ≤ q.1 - 1)) rs + q.2 := by
    have gen : ∀ {tb : Tb Int}, Nd tb → q ∈ tb → wsum (fun e => decide (e ≤ q.1)) tb = wsum (fun e => decide (e ≤ q.1 - 1)) tb + q.2 := by
      intro tb
      induction tb with
      | nil => intro _ z; cases z
      | cons r tb ih =>
        intro nd hq
        unfold Nd at nd
        rw [List.map_cons, List.nodup_cons] at nd
        rw [wsum_cons, wsum_cons]
        simp only [decide_eq_true_eq]
        rcases List.mem_cons.mp hq with e | hq
        · subst e
          have same : ∀ {tb : Tb Int}, (∀ r ∈ tb, r.1 ≠ q.1) → wsum (fun e => decide (e ≤ q.1)) tb = wsum (fun e => decide (e ≤ q.1 - 1)) tb := by
            intro tb
            induction tb with
            | nil => intro _; rfl
            | cons r tb ih2 =>
              intro hr
              rw [wsum_cons, wsum_cons, ih2 fun x hx => hr x (List.mem_cons_of_mem _ hx)]
              have := hr r List.mem_cons_self
              simp only [decide_eq_true_eq]
              split <;> split <;> omega
          rw [same fun r hr z => nd.1 (by rw [← z]; exact List.mem_map_of_mem hr)]
          rw [if_pos (Int.le_refl _), if_neg (by omega)]
          omega
        · have ne : r.1 ≠ q.1 := fun z => nd.1 (by rw [z]; exact List.mem_map_of_mem hq)
          rw [ih nd.2 hq]
          split <;> split <;> omega
    exact gen h.nd hq
  rw [h.sum, h.sum] at step
  have hz := h.nz q hq
  have ne : cr S q.1 ≠ cr S (q.1 - 1) := by omega
  clear step hz
  induction S with
  | nil => exact absurd rfl ne
  | cons s S ih => 
    by_cases c : s.1 = q.1 ∨ s.2 = q.1
    · exact ⟨s, List.mem_cons_self, c⟩
    · rw [cr_cons, cr_cons] at ne
      have : (if s.1 ≤ q.1 ∧ q.1 < s.2 then 1 else 0) = (if s.1 ≤ q.1 - 1 ∧ q.1 - 1 < s.2 then 1 else 0) := by
        split <;> split <;> omega
      have ne2 : cr S q.1 ≠ cr S (q.1 - 1) := fun z => ne (by rw [this, z])
      have ih2 : ∀ (h : True), ∃ s ∈ S, s.1 = q.1 ∨ s.2 = q.1 := fun _ => by
        clear ih
        have gen : ∀ {T : List Sp2}, cr T q.1 ≠ cr T (q.1 - 1) → ∃ s ∈ T, s.1 = q.1 ∨ s.2 = q.1 := by
          intro T
          induction T with
          | nil => intro z; exact absurd rfl z
          | cons s T ih =>
            intro z
            by_cases c : s.1 = q.1 ∨ s.2 = q.1
            · exact ⟨s, List.mem_cons_self, c⟩
            · rw [cr_cons, cr_cons] at z
              have : (if s.1 ≤ q.1 ∧ q.1 < s.2 then 1 else 0) = (if s.1 ≤ q.1 - 1 ∧ q.1 - 1 < s.2 then 1 else 0) := by
                split <;> split <;> omega
              obtain ⟨t, ht, e⟩ := ih fun y => z (by rw [this, y])
              exact ⟨t, List.mem_cons_of_mem _ ht, e⟩
        exact gen ne2
      obtain ⟨t, ht, e⟩ := ih2 trivial
      exact ⟨t, List.mem_cons_of_mem _ ht, e⟩
/-- b is the least level from 0 on that none crosses -/
structure Bare (S : List Sp2) (b : Int) : Prop where
  nn : 0 ≤ b
  at_ : cr S b = 0
  below : ∀ m, 0 ≤ m → m < b → 0 < cr S m
theorem Bare.uniq {S : List Sp2} {b c : Int} (h : Bare S b) (g : Bare S c) : b = c := by
  rcases Int.lt_trichotomy b c with l | l | l
  · have := g.below b h.nn l
    have := h.at_
    omega
  · exact l
  · have := h.below c g.nn l
    have := g.at_
    omega
end Dl
namespace Dl
open PySem PySem.Spec PyProof.Rows L2
/-! the walk over the sorted ends -/
theorem wsum_all_le {tb : Tb Int} {m : Int} (p : ∀ q ∈ tb, q.1 ≤ m) : wsum (fun e => decide (e ≤ m)) tb = (tb.map (·.2)).sum := by
  induction tb with
  | nil => rfl
  | cons q tb ih =>
    rw [wsum_cons, ih fun r hr => p r (List.mem_cons_of_mem _ hr), List.map_cons, List.sum_cons]
    have := p q List.mem_cons_self
    simp [this]
theorem wsum_congr {tb : Tb Int} {f g : Int → Bool} (p : ∀ q ∈ tb, f q.1 = g q.1) : wsum f tb = wsum g tb := by
  induction tb with
  | nil => rfl
  | cons q tb ih => rw [wsum_cons, wsum_cons, ih fun r hr => p r (List.mem_cons_of_mem _ hr), p q List.mem_cons_self]
theorem wsum_one {tb : Tb Int} (nd : Nd tb) {e v : Int} (h : getI tb e = some v) : wsum (fun x => decide (x = e)) tb = v := by
  induction tb with
  | nil => simp [getI] at h
  | cons q tb ih =>
    unfold Nd at nd
    rw [List.map_cons, List.nodup_cons] at nd
    rw [wsum_cons]
    by_cases c : q.1 = e
    · have z : wsum (fun x => decide (x = e)) tb = 0 := by
        rw [wsum_congr (g := fun _ => false) fun r hr => by
          have : r.1 ≠ e := fun y => nd.1 (by rw [c, ← y]; exact List.mem_map_of_mem hr)
          simp [this]]
        clear ih nd h
        induction tb with
        | nil => rfl
        | cons r tb ih => rw [wsum_cons, ih]; simp
      simp [getI, c] at h
      simp [c, z, h]
    · have h2 : getI tb e = some v := by
        simp only [getI, List.find?_cons, c, decide_false] at h ⊢
        exact h
      rw [ih nd.2 h2]
      simp [c]
theorem wsum_or {tb : Tb Int} {f g : Int → Bool} (p : ∀ q ∈ tb, ¬ (f q.1 = true ∧ g q.1 = true)) : wsum (fun x => f x || g x) tb = wsum f tb + wsum g tb := by
  induction tb with
  | nil => rfl
  | cons q tb ih =>
    rw [wsum_cons, wsum_cons, wsum_cons, ih fun r hr => p r (List.mem_cons_of_mem _ hr)]
    have := p q List.mem_cons_self
    cases h1 : f q.1 <;> cases h2 : g q.1 <;> simp_all <;> omega
theorem big_of (S : List Sp2) (rs : Tb Int) : ∃ M : Int, (∀ s ∈ S, s.2 ≤ M) ∧ ∀ q ∈ rs, q.1 ≤ M := by
  have h1 : ∃ M : Int, ∀ s ∈ S, s.2 ≤ M := by
    induction S with
    | nil => exact ⟨0, fun s hs => by cases hs⟩
    | cons s S ih =>
      obtain ⟨M, h⟩ := ih
      refine ⟨if M ≤ s.2 then s.2 else M, fun t ht => ?_⟩
      rcases List.mem_cons.mp ht with rfl | ht
      · split <;> omega
      · have := h t ht
        split <;> omega
  have h2 : ∃ M : Int, ∀ q ∈ rs, q.1 ≤ M := by
    induction rs with
    | nil => exact ⟨0, fun s hs => by cases hs⟩
    | cons s S ih =>
      obtain ⟨M, h⟩ := ih
      refine ⟨if M ≤ s.1 then s.1 else M, fun t ht => ?_⟩
      rcases List.mem_cons.mp ht with rfl | ht
      · split <;> omega
      · have := h t ht
        split <;> omega
  obtain ⟨M, a⟩ := h1
  obtain ⟨N, b⟩ := h2
  refine ⟨if M ≤ N then N else M, fun s hs => ?_, fun q hq => ?_⟩
  · have := a s hs
    split <;> omega
  · have := b q hq
    split <;> omega
theorem RiseS.total {rs : Tb Int} {S : List Sp2} (h : RiseS rs S) : (rs.map (·.2)).sum = 0 := by
  obtain ⟨M, h1, h2⟩ := big_of S rs
  rw [← wsum_all_le h2, h.sum]
  have : cr S M = 0 := by
    unfold cr
    rw [List.length_eq_zero_iff, List.filter_eq_nil_iff]
    intro s hs
    have := h1 s hs
    simp [crossP]
    omega
  omega
/-- what stands when i keys have been seen -/
structure Seen (rs : Tb Int) (S : List Sp2) (ys : List Int) (i : Nat) (many bare : Int) : Prop where
  nn : 0 ≤ bare
  at_ : many = wsum (fun e => decide (e ∈ ys.take i)) rs
  hi : ∀ e ∈ ys.take i, e ≤ bare
  top : i = 0 ∧ bare = 0 ∨ bare ∈ ys.take i
  below : ∀ m, 0 ≤ m → m < bare → 0 < cr S m
section
variable {rs : Tb Int} {S : List Sp2} {ys : List Int}
theorem split_sorted (hw : ys.Pairwise (· ≤ ·)) (nd : ys.Nodup) {i : Nat} {e : Int} (h : ys[i]? = some e) : (∀ x ∈ ys.take i, x < e) ∧ ∀ x ∈ ys, x ∉ ys.take i → e ≤ x := by
  have hi := (List.getElem?_eq_some_iff.mp h).1
  have he := (List.getElem?_eq_some_iff.mp h).2
  rw [List.pairwise_iff_getElem] at hw
  refine ⟨fun x hx => ?_, fun x hx hn => ?_⟩
  · obtain ⟨j, hj, rfl⟩ := List.mem_iff_getElem.mp hx
    rw [List.length_take] at hj
    rw [List.getElem_take]
    have h1 := hw j i (by omega) hi (by omega)
    have h2 : ys[j] ≠ ys[i] := (List.pairwise_iff_getElem.mp nd) j i (by omega) hi (by omega)
    rw [he] at h1 h2
    omega
  · obtain ⟨j, hj, rfl⟩ := List.mem_iff_getElem.mp hx
    by_cases c : j < i
    · exact absurd (List.mem_iff_getElem.mpr ⟨j, by rw [List.length_take]; omega, by rw [List.getElem_take]⟩) hn
    · by_cases c2 : i = j
      · subst c2
        rw [he]
        exact Int.le_refl _
      · have := hw i j hi hj (by omega)
        rw [he] at this
        exact this
variable (hR : RiseS rs S) (hp : ys.Perm (rs.map (·.1))) (hw : ys.Pairwise (· ≤ ·)) (hk : ∀ e ∈ rs.map (·.1), 0 ≤ e)
include hR hp hw hk
theorem Seen.start : Seen rs S ys 0 0 0 := ⟨Int.le_refl _, by
  rw [List.take_zero]
  exact (by
    have : wsum (fun e => decide (e ∈ ([] : List Int))) rs = 0 := by
      clear hR hp hk
      induction rs with
      | nil => rfl
      | cons q tb ih => rw [wsum_cons, ih]; simp
    exact this.symm), fun e he => by simp at he, .inl ⟨rfl, rfl⟩, fun m a b => by omega⟩
theorem ys_nd : ys.Nodup := hp.nodup_iff.mpr hR.nd
/-- between the last key seen and the next one the sum is the crossing -/
theorem Seen.cross {i : Nat} {many bare e : Int} (s : Seen rs S ys i many bare) (h : ys[i]? = some e) {m : Int} (m0 : bare ≤ m) (m1 : m < e) : (cr S m : Int) = many := by
  obtain ⟨a, b⟩ := split_sorted hw (ys_nd hR hp hw hk) h
  rw [← hR.sum, s.at_]
  refine wsum_congr fun q hq => ?_
  have mem : q.1 ∈ ys := hp.mem_iff.mpr (List.mem_map_of_mem hq)
  by_cases c : q.1 ∈ ys.take i
  · have := s.hi _ c
    have : q.1 ≤ m := by omega
    simp [c, this]
  · have := b _ mem c
    have : ¬ q.1 ≤ m := by omega
    simp [c, this]
theorem Seen.found {i : Nat} {many bare e : Int} (s : Seen rs S ys i many bare) (h : ys[i]? = some e) (z : many = 0) (l : bare < e) : Bare S bare :=
  ⟨s.nn, by have := s.cross hR hp hw hk h (Int.le_refl _) l; omega, s.below⟩
theorem Seen.next {i : Nat} {many bare e v : Int} (s : Seen rs S ys i many bare) (h : ys[i]? = some e) (hv : getI rs e = some v) (z : ¬ (many = 0 ∧ bare < e)) : Seen rs S ys (i + 1) (many + v) e := by
  obtain ⟨a, b⟩ := split_sorted hw (ys_nd hR hp hw hk) h
  have ht : ys.take (i + 1) = ys.take i ++ [e] := take_succ_get h
  have e0 : 0 ≤ e := hk e (hp.mem_iff.mp (List.mem_of_getElem? h))
  refine ⟨e0, ?_, fun x hx => ?_, .inr (by rw [ht]; simp), fun m m0 m1 => ?_⟩
  · rw [s.at_, ← wsum_one hR.nd hv, ← wsum_or fun q hq => ?_]
    · refine wsum_congr fun q hq => ?_
      rw [ht]
      simp
    · intro ⟨c1, c2⟩
      simp at c1 c2
      have := a _ c1
      omega
  · rw [ht] at hx
    rcases List.mem_append.mp hx with hx | hx
    · have := a x hx
      omega
    · simp at hx
      omega
  · by_cases c : m < bare
    · exact s.below m m0 c
    · have c2 := s.cross hR hp hw hk h (m := m) (by omega) m1
      have : many ≠ 0 := fun y => z ⟨y, by omega⟩
      omega
theorem Seen.last {many bare : Int} (s : Seen rs S ys ys.length many bare) : Bare S bare := by
  refine ⟨s.nn, ?_, s.below⟩
  have h1 : (cr S bare : Int) = 0 := by
    rw [← hR.sum, ← hR.total]
    refine wsum_all_le fun q hq => ?_
    have mem : q.1 ∈ ys := hp.mem_iff.mpr (List.mem_map_of_mem hq)
    have := s.hi q.1 (by rw [List.take_length]; exact mem)
    exact this
  omega
end
end Dl
namespace Dl
open PySem PySem.Spec PyProof.Rows L2
theorem max_le_of (m : Int) : ∀ (l : List Int) (e : Int), e ∈ l → e ≤ m → ∃ c ∈ l, c ≤ m ∧ ∀ x ∈ l, x ≤ m → x ≤ c
  | [], _, h, _ => by cases h
  | y :: l, e, h, he => by
    by_cases c0 : ∃ z ∈ l, z ≤ m
    · obtain ⟨z, hz, hzm⟩ := c0
      obtain ⟨c, hc, hcm, hx⟩ := max_le_of m l z hz hzm
      by_cases hy : y ≤ m ∧ c < y
      · refine ⟨y, List.mem_cons_self, hy.1, fun x hx2 hxm => ?_⟩
        rcases List.mem_cons.mp hx2 with rfl | hx2
        · exact Int.le_refl _
        · have := hx x hx2 hxm
          omega
      · refine ⟨c, List.mem_cons_of_mem _ hc, hcm, fun x hx2 hxm => ?_⟩
        rcases List.mem_cons.mp hx2 with rfl | hx2
        · omega
        · exact hx x hx2 hxm
    · rcases List.mem_cons.mp h with rfl | h
      · refine ⟨e, List.mem_cons_self, he, fun x hx2 hxm => ?_⟩
        rcases List.mem_cons.mp hx2 with rfl | hx2
        · exact Int.le_refl _
        · exact absurd ⟨x, hx2, hxm⟩ c0
      · exact absurd ⟨e, h, he⟩ c0
theorem cr_zero {S : List Sp2} {m : Int} : cr S m = 0 ↔ ∀ s ∈ S, ¬ (s.1 ≤ m ∧ m < s.2) := by
  unfold cr
  rw [List.length_eq_zero_iff, List.filter_eq_nil_iff]
  constructor
  · intro h s hs
    have := h s hs
    simp [crossP] at this
    omega
  · intro h s hs
    have := h s hs
    simp [crossP]
    omega
/-- the ends that may be the least bare one -/
def cands (S : List Sp2) : List Int := 0 :: S.map (·.2)
theorem cand {S : List Sp2} (hS : ∀ s ∈ S, 0 ≤ s.1 ∧ 0 ≤ s.2) {m : Int} (h0 : 0 ≤ m) (h : cr S m = 0) : ∃ c ∈ cands S, 0 ≤ c ∧ c ≤ m ∧ cr S c = 0 := by
  obtain ⟨c, hc, hcm, hx⟩ := max_le_of m (cands S) 0 List.mem_cons_self h0
  refine ⟨c, hc, hx 0 List.mem_cons_self h0, hcm, cr_zero.mpr fun s hs z => ?_⟩
  by_cases l : s.2 ≤ m
  · have := hx s.2 (List.mem_cons_of_mem _ (List.mem_map_of_mem hs)) l
    omega
  · exact cr_zero.mp h s hs (by omega)
theorem bare_head {S : List Sp2} (hS : ∀ s ∈ S, 0 ≤ s.1 ∧ 0 ≤ s.2) : ∃ b F, (sortI (cands S)).filter (fun m => decide (cr S m = 0)) = b :: F ∧ Bare S b := by
  have hpw := (sortI_pw (cands S)).filter (fun m => decide (cr S m = 0))
  have nn : ∀ c ∈ cands S, 0 ≤ c := fun c hc => by
    rcases List.mem_cons.mp hc with rfl | hc
    · exact Int.le_refl _
    · obtain ⟨s, hs, rfl⟩ := List.mem_map.mp hc
      exact (hS s hs).2
  have memF : ∀ c, c ∈ (sortI (cands S)).filter (fun m => decide (cr S m = 0)) ↔ c ∈ cands S ∧ cr S c = 0 := fun c => by
    rw [List.mem_filter, (sortI_perm _).mem_iff]
    simp
  cases e : (sortI (cands S)).filter (fun m => decide (cr S m = 0)) with
  | nil =>
    obtain ⟨M, h1, _⟩ := big_of S []
    obtain ⟨c, hc, _, _, h4⟩ := cand hS (m := if M ≤ 0 then 0 else M) (by split <;> omega) (cr_zero.mpr fun s hs z => by
      have := h1 s hs
      split at z <;> omega)
    have := (memF c).mpr ⟨hc, h4⟩
    rw [e] at this
    cases this
  | cons b F =>
    rw [e, List.pairwise_cons] at hpw
    have hb := (memF b).mp (by rw [e]; exact List.mem_cons_self)
    refine ⟨b, F, rfl, nn b hb.1, hb.2, fun m m0 m1 => ?_⟩
    refine Nat.pos_of_ne_zero fun z => ?_
    obtain ⟨c, hc, c0, cm, hz⟩ := cand hS m0 z
    have := (memF c).mpr ⟨hc, hz⟩
    rw [e] at this
    rcases List.mem_cons.mp this with rfl | h
    · omega
    · have := hpw.1 c h
      omega
end Dl
namespace Dl
open PySem PySem.Spec PyProof.Rows L2
theorem Bare.in_cands {S : List Sp2} (hS : ∀ s ∈ S, 0 ≤ s.1 ∧ 0 ≤ s.2) {m : Int} (h : Bare S m) : m ∈ cands S := by
  obtain ⟨c, hc, c0, cm, hz⟩ := cand hS h.nn h.at_
  by_cases e : c < m
  · have := h.below c c0 e
    omega
  · have : c = m := by omega
    rw [← this]
    exact hc
theorem RiseS.size {rs : Tb Int} {S : List Sp2} (h : RiseS rs S) : rs.length ≤ 2 * S.length := by
  have h1 : (rs.map (·.1)).length ≤ (S.map (·.1) ++ S.map (·.2)).length := by
    refine List.Nodup.length_le_of_subset h.nd fun e he => ?_
    obtain ⟨q, hq, rfl⟩ := List.mem_map.mp he
    obtain ⟨s, hs, e⟩ := h.key hq
    rcases e with e | e
    · exact List.mem_append.mpr (.inl (by rw [← e]; exact List.mem_map_of_mem hs))
    · exact List.mem_append.mpr (.inr (by rw [← e]; exact List.mem_map_of_mem hs))
  simp at h1
  omega
section
variable {μ : Mu} {l : Addr} {xs : List D} {i : Int} {y : D} {Q : DQ}
theorem map_erase {α β : Type} (f : α → β) : ∀ (S : List α) (i : Nat), (S.map f).eraseIdx i = (S.eraseIdx i).map f
  | [], _ => rfl
  | _ :: _, 0 => rfl
  | x :: S, i + 1 => by
    rw [List.map_cons, List.eraseIdx_cons_succ, List.eraseIdx_cons_succ, List.map_cons, map_erase f S i]
theorem perm_erase {α : Type} : ∀ {S : List α} {i : Nat} (h : i < S.length), S.Perm (S[i] :: S.eraseIdx i)
  | _ :: _, 0, _ => .refl _
  | x :: S, i + 1, h => by
    rw [List.eraseIdx_cons_succ, List.getElem_cons_succ]
    exact (List.Perm.cons x (perm_erase (S := S) (i := i) (Nat.lt_of_succ_lt_succ h))).trans (.swap _ _ _)
theorem rd_pop {α : Type} {f : α → D} {S : List α} (h : μ l = some (.lst (S.map f))) (h0 : 0 ≤ i) (h1 : i < S.length) (h2 : S.length ≤ 1000000) (q : ∀ x S', S.Perm (x :: S') → S'.length + 1 = S.length → Q (f x) (put μ l (.lst (S'.map f)))) : fPopAt (.at l) [.int i] μ Q := by
  have hlt : i.toNat < S.length := by omega
  refine ⟨l, S.map f, i, i.toNat, f S[i.toNat], rfl, rfl, h, h0, by omega, by omega, ?_, ?_⟩
  · rw [List.getElem?_map, List.getElem?_eq_getElem hlt]
    rfl
  · have e : (S.map f).eraseIdx i.toNat = (S.eraseIdx i.toNat).map f := map_erase f S _
    rw [e]
    refine q _ _ ?_ ?_
    · exact perm_erase hlt
    · rw [List.length_eraseIdx_of_lt hlt]
      omega
theorem rd_reprN (q : Q (.str (PyData.none).shown) μ) : fRepr [.non] μ Q := rd_repr .non .none (by decide) (by decide) q
end
end Dl
namespace Dl
open PySem PySem.Spec PyProof.Rows L2
end Dl
namespace Dl
open PySem PySem.Spec PyProof.Rows L2
variable {B : Bs}
/-! ### == by the text's own __eq__ -/
/-- the class of what stands right -/
def RightOk (K : Frg) (C : Addr) (μ : Mu) (d : D) : Prop := (∃ n, kindD μ d n ∧ PySem.W.notFirst K C (.type n) = true) ∨ ∃ p fs, d = .at p ∧ μ p = some (.ins C fs)
theorem obj_type {M : Model} {h : Heap} {a : Addr} {o : Obj} {t : Value} (e : h.get? a = some o) (c : o.cls = t) : PySem.W.Looks M h (typeOf (.ref a)) t := c ▸ (PySem.W.Looks.ld e).andThen .now
theorem kind_type {X : Cx} {pins : List (Addr × Obj)} {σ : L2.St} {H : Hp} {s : Shared} {M : Model} {v : V} {u : Value} {n : String} (I : Inv X pins σ H s) (r : RelV v u) (t : TyOf X.K H v (.type n)) : PySem.W.Looks M s.heap (typeOf u) (.type n) := by
  cases t with
  | non => cases (show u = Value.none from r); exact .of_pure rfl
  | bl y => cases (show u = Value.bool y from r); exact .of_pure rfl
  | int i => obtain ⟨t, q⟩ := (show ∃ t, u = Value.int i t from r); cases q; exact .of_pure rfl
  | str y => obtain ⟨t, q⟩ := (show ∃ t, u = Value.str y t from r); cases q; exact .of_pure rfl
  | flt y => obtain ⟨t, q⟩ := (show ∃ t, u = Value.float y t from r); cases q; exact .of_pure rfl
  | @lst a xs ea =>
    cases (show u = Value.ref a from r)
    obtain ⟨_, _, n, _, h1⟩ := (show ObjOk X.prog X.w H s.heap a (.lst xs) from I.hok a _ ea)
    exact obj_type h1 rfl
  | @frz a ob xs ea =>
    cases (show u = Value.ref a from r)
    obtain ⟨_, _, _, n, _, h1⟩ := (show ObjOk X.prog X.w H s.heap a (.frz ob (.lst xs)) from I.hok a _ ea)
    exact obj_type h1 rfl
  | @tup a xs ea =>
    cases (show u = Value.ref a from r)
    obtain ⟨_, _, _, p⟩ := (show ObjOk X.prog X.w H s.heap a (.tup xs) from I.hok a _ ea)
    obtain ⟨o, h1, h2, _⟩ := p
    exact obj_type h1 h2
  | @dK a kvs ea =>
    cases (show u = Value.ref a from r)
    obtain ⟨_, _, vs, _, p⟩ := (show ObjOk X.prog X.w H s.heap a (.dK kvs) from I.hok a _ ea)
    obtain ⟨o, es, ep, h1, h2, _⟩ := p
    exact obj_type h1 h2.1
  | @dT a kvs ea =>
    cases (show u = Value.ref a from r)
    obtain ⟨_, _, vs, _, p⟩ := (show ObjOk X.prog X.w H s.heap a (.dT kvs) from I.hok a _ ea)
    obtain ⟨o, es, ep, h1, h2, _⟩ := p
    exact obj_type h1 h2.1
def fEqO (K : Frg) (C : Addr) (sp : SpD) : F2 := fun d e μ Q => ∃ p fs, d = .at p ∧ μ p = some (.ins C fs) ∧ RightOk K C μ e ∧ sp [.at p, e] μ (fun r μ' => ∃ b, r = .bl b ∧ Q (.bl b) μ') noX
section
variable {X : Cx} {C f : Addr} {fd : FuncData} {ps : List Str} {sp : SpD} {k : Nat}
theorem od_eqO (F : FnG X.prog X.w X.K X.mg X.base k f fd ps sp) (hr : Room k X.A) (hg : X.A.guards = some []) (tk : Takes X fun _ _ _ _ => False) (hb : KBd X.K fd ps 2 [] fun ds _ => ds) (hs : PySem.W.findIn X.K (.ref C) "__eq__" = some (some (.ref f))) (hf : PySem.W.isFn X.K (.ref f) = true) :
    OpR X (compareOp .Eq) (upF2 (fEqO X.K C sp)) := fun pins s σ H x y u w Q I rx ry ⟨d, e, μ, QD, hx, hy, m, ⟨p, fs, ed, hp, hR, hsp⟩, kk⟩ => by
  subst ed
  rw [show x = V.ref p from hx] at rx
  obtain rfl : u = Value.ref p := rx
  obtain ⟨dx, gs, e1, kd⟩ := m p _ hp
  obtain ⟨mA, J, _⟩ := ins_get I.hok e1
  obtain ⟨od, J, _⟩ := J.look
  obtain ⟨mm, hF⟩ := I.fr
  have core : wpAny (model X.prog X.w) X.A (call (.ref f) [.ref p, w]) (PySem.W.CmpBack (EP X pins σ Q)) X.xe s := by
    obtain ⟨zs, hbd, hrel⟩ := hb.to s [.ref p, w] [] I.kIn rfl rfl
    obtain ⟨ys, rys, vy⟩ := hrel (MD μ) H [.at p, e] [] [.ref p, y] [] ⟨_, _, rfl, rfl, _, _, rfl, hy, rfl⟩ rfl (.cons rfl (.cons ry .nil)) .nil
    refine wpAny_call (codeAny_mono (F.run X.A X.stack s H ⟨[.ref p, w], []⟩ zs ys (fun v H' => ∃ b : Bool, v = .bl b ∧ Q (.bl b) H') (fun _ _ _ => False) hg hr I.env0 hbd rys
      ⟨_, μ, _, _, vy, m, hsp, ?_, fun cls d H' ⟨_, _, _, _, _, z⟩ => z⟩) fun r s' hq => ?_)
    · rintro v H' ⟨d, μ', st, m', vd, b, rfl, h3⟩
      exact ⟨b, vd, kk _ _ ⟨.bl b, μ', st, m', rfl, h3⟩⟩
    · cases r with
      | error e => exact tk e s' (XE.of_call I (fun cls d H' z => z) hq)
      | ok fl =>
        cases fl with
        | ret u =>
          obtain ⟨v, H', I', rv, b, rfl, h3⟩ := I.after hq
          obtain rfl : u = Value.bool b := rv
          exact ⟨.bl b, H', I', rfl, h3⟩
        | next => exact hq.elim
        | brk => exact hq.elim
        | cont => exact hq.elim
  rcases hR with ⟨n, hk, hn⟩ | ⟨q, gs', rfl, hq⟩
  · exact PySem.W.cmp_K (op := .Eq) hr.units0 hF I.ok.mod.kin J (kind_type I ry (hk.to m hy)) hn hs hf core
  · rw [show y = V.ref q from hy] at ry
    obtain rfl : w = Value.ref q := ry
    obtain ⟨dx', gs2, e2, kd2⟩ := m q _ hq
    obtain ⟨mA', J', _⟩ := ins_get I.hok e2
    obtain ⟨od', J', _⟩ := J'.look
    exact PySem.W.cmp_K (op := .Eq) (tb := .ref C) hr.units0 hF I.ok.mod.kin J J'.type (by simp [PySem.W.notFirst]) hs hf core
end
end Dl
namespace Dl
open PySem PySem.W PySem.Calls PyProof.Rows Builtin
end Dl
namespace Dl
open PySem PySem.Spec PyProof.Rows L2
end Dl
namespace Dl
open PySem PySem.Spec PyProof.Rows L2
/-- what isinstance(x, C) wants of an own class C -/
structure ClsI (K : Frg) (C : Addr) : Prop where
  cl : Cls K C
  ha : PySem.W.findIn K (.ref C) "__class__" = some (some (.builtin "object.__class__"))
  hn : PySem.W.specialIn K (.builtin "object.__class__") "__get__" = some (some (.builtin "getset_descriptor.__get__"))
  ht : PySem.W.takesIn K (.builtin "object.__class__") = some true
  hm : PySem.W.mroIn K C (.type "object") = some true
  is : PySem.W.isClsIn K C = true
  ty : PySem.W.typeIn K (.ref C) = some (.type "type")
def fIsiO (K : Frg) (C : Addr) : FN := fun ds μ Q => ∃ d, ds = [d, .at C] ∧ ((∃ p fs, d = .at p ∧ μ p = some (.ins C fs) ∧ Q (.bl true) μ) ∨ ∃ n, kindD μ d n ∧ PySem.W.subIn K (.type n) (.ref C) = some false ∧ Q (.bl false) μ)
theorem cd_isiO {X : Cx} {C : Addr} (k : ClsI X.K C) : CallR X (.builtin "isinstance") (upFN (fIsiO X.K C)) := CallR.of call_isi fun xs H Q ⟨ds, μ, QD, v, m, ⟨d, e, h⟩, kk⟩ => by
  subst e
  obtain ⟨v1, vs, rfl, r1, v2, ws, rfl, r2, e⟩ := v
  rw [show ws = [] from e, show v2 = V.ref C from r2]
  rcases h with ⟨p, fs, rfl, hp, q⟩ | ⟨n, hk, hs, q⟩
  · obtain ⟨dx, gs, e1, kd⟩ := m p _ hp
    rw [show v1 = V.ref p from r1]
    exact ⟨.ref p, .ref C, .ref C, .ref C, true, rfl, .own C, .base (.ins e1 k.cl k.ha k.hn k.ht k.hm), by unfold PySem.W.kitOne; simp, kk _ _ (lft_mk (d := .bl _) m rfl q)⟩
  · refine ⟨v1, .ref C, .type n, .ref C, false, rfl, .own C, .base (hk.to m r1), ?_, kk _ _ (lft_mk (d := .bl _) m rfl q)⟩
    unfold PySem.W.kitOne PySem.W.kitCls
    have hi : (PySem.W.clsIn X.K C).isSome = true := k.is
    rw [if_neg (by simp)]
    simp only [hi, k.ty, beq_self_eq_true, Bool.and_self, if_true]
    exact hs
end Dl
namespace Dl
open PySem PySem.W PySem.Calls PyProof.Rows PyProof.V PySem.Spec
section
variable {prog : Program} {w : World} {κ : Type} [DecidableEq κ] {kd : HeapKind prog w κ} {A : Around} {E : Value → Shared → Prop} {s : Shared}
/-- the value that one dict keeps under a key of the other -/
theorem found_in {zs : List (κ × Addr × Value)} (nd : (zs.map (·.1)).Nodup) {j : Nat} {c : κ} {q : Addr × Value} (e : zs[j]? = some (c, q)) : valueAt (pairsH zs) c = some q.2 :=
  (valueAt_pairsH zs c).trans (congrArg (Option.map (·.2)) (atKey_of_get nd e))
theorem lost_in {zs : List (κ × Addr × Value)} {c : κ} (h : ∀ (j : Nat) (q : Addr × Value), zs[j]? ≠ some (c, q)) : valueAt (pairsH zs) c = none :=
  (valueAt_pairsH zs c).trans (congrArg (Option.map (·.2)) (atKey_none_of_get h))
theorem hits_cons {b : Bool} {left zs : List (κ × Addr × Value)} {c : κ} {ad : Addr} {v : Value} (k : KeqHits A s (pairsH zs) (pairsH ((c, ad, v) :: left)) b) :
    (valueAt (pairsH zs) c = none → b = false) ∧ ∀ u, valueAt (pairsH zs) c = some u → ∃ x y, SeqAt.EqAt A s v u x ∧ KeqHits A s (pairsH zs) (pairsH left) y ∧ b = (x && y) := by
  rcases KeqHits.inv (show KeqHits A s (pairsH zs) ((c, v) :: pairsH left) b from k) with ⟨a1, a2⟩ | ⟨u, x, y, a1, a2, a3, a4⟩
  · exact ⟨fun _ => a2, fun u z => by rw [a1] at z; cases z⟩
  · exact ⟨fun z => (by rw [a1] at z; cases z), fun u' z => by
      rw [a1] at z
      cases z
      exact ⟨x, y, a2, a3, a4⟩⟩
/-- two dicts by keys of the heap, walked one beside the other -/
theorem samePairsH {id : String} {p q : Addr} {xs zs : List (κ × Addr × Value)} {b : Bool} {Q : Bool → Shared → Prop} (room : kd.room A) (np : (p == sysModules) = false) (nq : (q == sysModules) = false)
    (dp : s.heap.DictOfH kd p xs) (dq : s.heap.DictOfH kd q zs) (hit : xs.length = zs.length → KeqHits A s (pairsH zs) (pairsH xs) b) (ok : Q (xs.length == zs.length && b) s) :
    wpAny (model prog w) A (Builtin.Dict.samePairs id p q) Q E s := by
  rcases dp with ⟨op, es, n1, gp, _, vp, lp, kp, _⟩
  rcases dq with ⟨oq, fs, n2, gq, _, vq, lq, kq, uq⟩
  have z1 := size_of_entries lp
  have z2 := size_of_entries lq
  simp only [Builtin.Dict.samePairs, Builtin.Dict.showsAll, np, nq, Bool.false_eq_true, if_false]
  apply wpAny_bind; apply wpAny_pure; apply wpAny_bind; apply wpAny_pure
  apply wpAny_bind; apply wpAny_dictEntries gp vp
  apply wpAny_bind; apply wpAny_dictEntries gq vq
  split
  · rename_i c
    have c' : (xs.length == zs.length) = false := by
      rw [← z1, ← z2]
      simpa using c
    rw [c', Bool.false_and] at ok
    apply wpAny_bind; apply wpAny_rule; exact wpAny_pure ok
  · rename_i c
    have c' : xs.length = zs.length := by
      rw [← z1, ← z2]
      simpa using c
    have ok' : Q b s := by simpa [c'] using ok
    apply wpAny_bind; apply wpAny_dictEpoch gp vp
    apply wpAny_bind
    rw [Std.Legacy.Range.forIn_eq_forIn_range']
    simp only [Std.Legacy.Range.size, Nat.sub_zero, Nat.add_sub_cancel, Nat.div_one]
    apply wpAny_forIn_list _ (fun left acc s' => s' = s ∧ acc = (none, ()) ∧ ∃ at_, left = List.range' at_ (es.size - at_) ∧ at_ ≤ es.size ∧ KeqHits A s (pairsH zs) (pairsH (xs.drop at_)) b)
    · rintro j left acc s' ⟨e1, e2, at_, e3, le, kh⟩
      subst e1 e2
      rcases Nat.eq_or_lt_of_le le with stop | lt
      · rw [stop, Nat.sub_self] at e3
        cases e3
      · have e4 : es.size - at_ = es.size - (at_ + 1) + 1 := by omega
        rw [e4, List.range'_succ, List.cons.injEq] at e3
        obtain ⟨e5, e6⟩ := e3
        subst e5
        have ltx : j < xs.length := z1 ▸ lt
        rcases hx : xs[j] with ⟨c, ad, v⟩
        have there : xs[j]? = some (c, ad, v) := by rw [List.getElem?_eq_getElem ltx, hx]
        have cut : xs.drop j = (c, ad, v) :: xs.drop (j + 1) := hx ▸ List.drop_eq_getElem_cons ltx
        have one := (entry_at lp j).trans (congrArg (Option.map (entryOfKey kd)) there)
        rw [cut] at kh
        have two := hits_cons kh
        apply wpAny_bind; apply wpAny_dictEntries gp vp
        rw [one]
        apply wpAny_bind
        show wpAny _ A (holding [Value.ref ad, v] _) _ E s'
        apply wpAny_holding; apply wpAny_bind
        apply wpAny_dictFind_heap room (kp _ (List.mem_of_getElem? there)) gq vq lq kq uq
        · intro none_
          cases two.1 (lost_in none_)
          exact wpAny_pure (wpAny_pure (wpAny_pure ok'))
        · intro i u hu
          obtain ⟨x, y, q1, q2, q3⟩ := two.2 _ (found_in uq hu)
          subst q3
          apply wpAny_bind; apply wpAny_dictEntries gq vq
          rw [(entry_at lq i).trans (congrArg (Option.map (entryOfKey kd)) hu)]
          apply wpAny_holding; apply q1
          cases x
          · exact wpAny_pure (wpAny_pure ok')
          · apply wpAny_bind; apply wpAny_dictEpoch gp vp
            simp only [bne_self_eq_false, Bool.false_eq_true, if_false]
            exact wpAny_pure ⟨rfl, rfl, j + 1, e6, lt, by simpa using q2⟩
    · rintro acc s' ⟨e1, e2, at_, e3, le, kh⟩
      subst e1 e2
      have stop : es.size - at_ = 0 := by
        have := congrArg List.length e3
        simpa using this.symm
      have : xs.drop at_ = [] := List.drop_eq_nil_of_le (by omega)
      rw [this] at kh
      cases kh
      exact wpAny_pure ok'
    · exact ⟨rfl, rfl, 0, by simp, Nat.zero_le _, by simpa using hit c'⟩
/-- == of two such dicts -/
theorem eqH {p q : Addr} {xs zs : List (κ × Addr × Value)} {b : Bool} {Q : Value → Shared → Prop} (room : kd.room A.in1) (np : (p == sysModules) = false) (nq : (q == sysModules) = false)
    (dp : s.heap.DictOfH kd p xs) (dq : s.heap.DictOfH kd q zs) (hu : A.units < cLine) (hit : xs.length = zs.length → KeqHits A.in1 s (pairsH zs) (pairsH xs) b) (ok : Q (.bool (xs.length == zs.length && b)) s) :
    wpAny (model prog w) A (compareOp .Eq (.ref p) (.ref q)) Q E s := by
  have tp := dp.typeIs
  have tq := dq.typeIs
  apply wpAny_richCompare_same_room (op := .Eq) tp tq PySem.F.slot_dict_eq ?_ hu
  apply wpAny_call_entry PySem.F.slot_dict_eq tp PySem.F.entry_dict_eq ?_ (PySem.F.args_dict_eq_2 _ _)
  show wpAny _ A.in1 (Builtin.Dict.dictSlotArgs "__eq__" ⟨[.ref p, .ref q], []⟩ >>= _) _ E s
  apply wpAny_bind
  unfold Builtin.Dict.dictSlotArgs
  apply wpAny_bind; apply wpAny_notOrdered_dict tp
  show wpAny _ A.in1 (pure (Value.ref p, Value.ref q)) _ E s
  apply wpAny_pure; apply wpAny_bind; apply wpAny_isInstance (T := "dict") tq PySem.F.sub_dict_dict
  simp only [Bool.not_true, Bool.false_eq_true, if_false]
  apply wpAny_bind; apply wpAny_pure; apply wpAny_bind; apply wpAny_pure; apply wpAny_bind
  apply samePairsH room np nq dp dq hit
  exact wpAny_pure ⟨_, rfl, (fun z => nomatch z), by simpa using ok⟩
end
end Dl
namespace Dl
open PySem PySem.Spec PyProof.Rows L2
variable {B : Bs}
/-! ### tables of counts compared; isinstance and == of an own class; a list turned about; tuple(a list) -/
def eqT {α : Type} [DecidableEq α] (ta tb : Tb α) : Bool := ta.length == tb.length && ta.all fun q => decide (getI tb q.1 = some q.2)
theorem hits_tab {A : Around} {s : Shared} {M : Ms} {H : Hp} {tb : Tb Sp2} {ksb : List (List Key × V)} {xb : List (List Key × Addr × Value)} (kb : KD M H (enc kP tb) ksb) (rb : KT H ksb xb) :
    ∀ {ta : Tb Sp2} {ksa : List (List Key × V)} {xa : List (List Key × Addr × Value)}, KD M H (enc kP ta) ksa → KT H ksa xa → PySem.W.KeqHits A s (PySem.pairsH xb) (PySem.pairsH xa) (ta.all fun q => decide (getI tb q.1 = some q.2))
  | [], _, _, ka, ra => by
    cases ka
    cases ra
    exact .nil
  | q :: ta, _, _, ka, ra => by
    cases ka with
    | @cons _ p _ ps h1 h2 =>
      obtain ⟨k, v⟩ := p
      obtain ⟨e1, e2⟩ := h1
      cases ra with
      | @cons _ z _ zs g1 g2 =>
        obtain ⟨k', ad, u⟩ := z
        obtain ⟨f1, f2, f3⟩ := g1
        have ih := hits_tab (A := A) (s := s) kb rb h2 g2
        have ek : kP q.1 = k := e1
        have ek' : k = k' := f1
        subst ek'
        subst ek
        have ev : v = V.int q.2 := e2
        subst ev
        obtain ⟨t, rfl⟩ : ∃ t, u = Value.int q.2 t := f3
        have rv := rb.val (kP q.1)
        have ka := kb.at (kP q.1)
        rw [enc_at kP_inj] at ka
        show PySem.W.KeqHits A s _ ((kP q.1, Value.int q.2 t) :: PySem.pairsH zs) _
        rw [List.all_cons]
        cases hg : getI tb q.1 with
        | none =>
          rw [hg] at ka
          have e3 := ka.2 rfl
          rw [e3] at rv
          have e4 : decide ((none : Option Int) = some q.2) = false := by simp
          rw [e4, Bool.false_and]
          refine .miss ?_
          rw [PySem.valueAt_pairsH]
          cases hz : atKey xb (kP q.1) with
          | none => rfl
          | some p =>
            rw [hz] at rv
            exact (show False from rv).elim
        | some y =>
          rw [hg] at ka
          obtain ⟨v, e3, e4⟩ := ka.1 (.int y) rfl
          rw [show v = V.int y from e4] at e3
          rw [e3] at rv
          obtain ⟨w, ew, rw_⟩ := rv.some_of
          obtain ⟨t', rfl⟩ : ∃ t, w = Value.int y t := rw_
          have e5 : decide (some y = some q.2) = (q.2 == y) := by
            rw [Bool.beq_eq_decide_eq]
            by_cases h : q.2 = y
            · simp [h]
            · have h' : ¬ y = q.2 := fun z => h z.symm
              simp [h, h']
          rw [e5]
          refine .hit (y := Value.int y t') ?_ (SeqAt.EqAt.int_int _ _ _ t') ih
          rw [PySem.valueAt_pairsH]
          exact ew
def fEqT : F2 := fun d e μ Q => ∃ a b ta tb, d = .at a ∧ e = .at b ∧ μ a = some (.dT (enc kP ta)) ∧ μ b = some (.dT (enc kP tb)) ∧ Q (.bl (eqT ta tb)) μ
theorem od_eqT {X : Cx} (hu : X.A.units + 1 < cLine) : OpR X (compareOp .Eq) (upF2 fEqT) := fun pins s σ H x y v u Q I rx ry ⟨d, e, μ, QD, hx, hy, m, ⟨a, b, ta, tb, ed, ee, ha, hb, q⟩, kk⟩ => by
  subst ed ee
  rw [show x = V.ref a from hx] at rx
  rw [show y = V.ref b from hy] at ry
  obtain rfl : v = Value.ref a := rx
  obtain rfl : u = Value.ref b := ry
  obtain ⟨ka, ea, da⟩ := m a _ ha
  obtain ⟨kb, eb, db⟩ := m b _ hb
  obtain ⟨_, ya, xa, ra, oa⟩ := dt_of I.hok ea
  obtain ⟨_, yb, xb, rb, ob⟩ := dt_of I.hok eb
  refine eqH (kd := tupleKind (mixKind X.prog X.w)) hu ya yb oa ob (Nat.lt_of_succ_lt hu) (fun _ => hits_tab db rb da ra) ?_
  have l1 : xa.length = ta.length := by rw [← ra.length, ← da.length, enc_length]
  have l2 : xb.length = tb.length := by rw [← rb.length, ← db.length, enc_length]
  rw [l1, l2]
  exact ⟨.bl _, H, I, rfl, kk _ _ (lft_mk (d := .bl _) m rfl q)⟩
theorem Cnt.eqT {ta tb : Tb Sp2} {S T : List Sp2} (h : Cnt ta S) (g : Cnt tb T) : Dl.eqT ta tb = decide (S.Perm T) := by
  by_cases p : S.Perm T
  · rw [decide_eq_true p]
    have hv : ∀ s, valI ta s = valI tb s := fun s => by rw [h.val, g.val, p.count_eq]
    have hk : ∀ s, s ∈ ta.map (·.1) ↔ s ∈ tb.map (·.1) := fun s => by
      constructor
      · intro hs
        by_cases q : s ∈ tb.map (·.1)
        · exact q
        · have e := h.get hs
          have e2 := hv s
          unfold valI at e2
          rw [e] at e2
          obtain ⟨z, hz, rfl⟩ := List.mem_map.mp hs
          have nz := h.nz z hz
          have e3 := getI_mem h.nd hz
          rw [e3] at e
          cases hg : getI tb z.1 with
          | none =>
            rw [hg] at e2
            simp at e2
            have : z.2 = (S.count z.1 : Int) := by simpa using e
            omega
          | some y => exact List.mem_map.mpr ⟨_, mem_getI hg, rfl⟩
      · intro hs
        by_cases q : s ∈ ta.map (·.1)
        · exact q
        · have e := g.get hs
          have e2 := hv s
          unfold valI at e2
          rw [e] at e2
          obtain ⟨z, hz, rfl⟩ := List.mem_map.mp hs
          have nz := g.nz z hz
          have e3 := getI_mem g.nd hz
          rw [e3] at e
          cases hg : getI ta z.1 with
          | none =>
            rw [hg] at e2
            simp at e2
            have : z.2 = (T.count z.1 : Int) := by simpa using e
            omega
          | some y => exact List.mem_map.mpr ⟨_, mem_getI hg, rfl⟩
    have hl : ta.length = tb.length := by
      have := ((List.perm_ext_iff_of_nodup h.nd g.nd).mpr hk).length_eq
      simpa using this
    unfold Dl.eqT
    rw [hl, beq_self_eq_true, Bool.true_and, List.all_eq_true]
    intro z hz
    have e3 := getI_mem h.nd hz
    have hm : z.1 ∈ tb.map (·.1) := (hk z.1).mp (List.mem_map.mpr ⟨z, hz, rfl⟩)
    have e4 := g.get hm
    have e5 := h.get (List.mem_map.mpr ⟨z, hz, rfl⟩)
    rw [e3] at e5
    rw [e4, e5, p.count_eq]
    simp
  · rw [decide_eq_false p]
    cases e : Dl.eqT ta tb with
    | false => rfl
    | true =>
      exfalso
      apply p
      unfold Dl.eqT at e
      rw [Bool.and_eq_true, List.all_eq_true] at e
      obtain ⟨hl, ha⟩ := e
      have hl : ta.length = tb.length := by simpa using hl
      have ha : ∀ z ∈ ta, getI tb z.1 = some z.2 := fun z hz => by simpa using ha z hz
      have sub : ∀ s ∈ ta.map (·.1), s ∈ tb.map (·.1) := fun s hs => by
        obtain ⟨z, hz, rfl⟩ := List.mem_map.mp hs
        exact List.mem_map.mpr ⟨_, mem_getI (ha z hz), rfl⟩
      have pk : (ta.map (·.1)).Perm (tb.map (·.1)) := (List.perm_ext_iff_of_nodup h.nd g.nd).mpr fun s => ⟨sub s, fun hs => by
        by_cases q : s ∈ ta.map (·.1)
        · exact q
        · have n1 : (s :: ta.map (·.1)).Nodup := List.nodup_cons.mpr ⟨q, h.nd⟩
          have := n1.length_le_of_subset (l₂ := tb.map (·.1)) (fun z hz => by
            rcases List.mem_cons.mp hz with rfl | hz
            · exact hs
            · exact sub z hz)
          simp only [List.length_cons, List.length_map] at this
          omega⟩
      refine List.perm_iff_count.mpr fun s => ?_
      have e1 := h.val s
      have e2 := g.val s
      have e3 : valI ta s = valI tb s := by
        by_cases hs : s ∈ ta.map (·.1)
        · obtain ⟨z, hz, rfl⟩ := List.mem_map.mp hs
          unfold valI
          rw [ha z hz, getI_mem h.nd hz]
        · have hs' : s ∉ tb.map (·.1) := fun z => hs (pk.mem_iff.mpr z)
          have n1 : getI ta s = none := by
            cases hg : getI ta s with
            | none => rfl
            | some y => exact (hs (List.mem_map.mpr ⟨_, mem_getI hg, rfl⟩)).elim
          have n2 : getI tb s = none := by
            cases hg : getI tb s with
            | none => rfl
            | some y => exact (hs' (List.mem_map.mpr ⟨_, mem_getI hg, rfl⟩)).elim
          unfold valI
          rw [n1, n2]
      omega
/-- xs[::-1] -/
def wRev (mm : Bool) (o : WE) : WE := fun ρ μ Q => o ρ μ fun d μ1 => ∃ xs, Lr μ1 d xs ∧ New mm xs.reverse μ1 Q
/-- tuple(xs) -/
def wTupOf (o : WE) : WE := fun ρ μ Q => o ρ μ fun d μ1 => ∃ xs, Lr μ1 d xs ∧ Q (.tup xs) μ1
end Dl
namespace Dl
open PySem PySem.Spec PyProof.Rows L2
variable {B : Bs}
/-- the built-in types of data, none of which stands under the class C -/
def dataTys : List String := ["NoneType", "bool", "int", "str", "list", "tuple", "dict"]
structure Apart (K : Frg) (C : Addr) : Prop where
  sub : ∀ n ∈ dataTys, PySem.W.subIn K (.type n) (.ref C) = some false
section
variable {X : Cx} {k j : Nat} {C : Addr} {qual x y : Str} {st : Stmt} {sp : SpD}
theorem eq2 {f : Addr} {fd : FuncData} {ps : List Str} (h : KBd X.K fd ps 2 [] fun ds es => ds ++ picked es .non []) : KBd X.K fd ps 2 [] fun ds _ => ds :=
  ⟨fun s us ws a b c => let ⟨zs, h1, h2⟩ := h.to s us ws a b c; ⟨zs, h1, fun M H ds es vs ms p q r t => let ⟨xs, h3, h4⟩ := h2 M H ds es vs ms p q r t; ⟨xs, h3, by simpa [picked] using h4⟩⟩⟩
theorem oeqO (d : MetD X.prog X.w X.K X.mg X.base k C "__eq__" qual st [x, y] sp) (hr : Room j X.A) (hk : k ≤ j) (hg : X.A.guards = some []) (hb : Bd "__eq__" qual st [x, y] 2 [] []) : OpR X (compareOp .Eq) (upF2 (fEqO X.K C sp)) := by
  obtain ⟨f, fd, G, F, M⟩ := d.ex
  exact od_eqO G (hr.mono hk) hg takes0 (eq2 (f := f) (hb.to F)) M.at_ M.fn
end
theorem rd_eqO {K : Frg} {C : Addr} {sp : SpD} {p : Addr} {e : D} {fs : List (Str × D)} {μ : Mu} {Q : DQ} (h : μ p = some (.ins C fs)) (r : RightOk K C μ e) (q : sp [.at p, e] μ (fun r μ' => ∃ b, r = .bl b ∧ Q (.bl b) μ') noX) : fEqO K C sp (.at p) e μ Q := ⟨p, fs, rfl, h, r, q⟩
theorem rd_eqT {a b : Addr} {ta tb : Tb Sp2} {μ : Mu} {Q : DQ} (h : μ a = some (.dT (enc kP ta))) (g : μ b = some (.dT (enc kP tb))) (q : Q (.bl (eqT ta tb)) μ) : fEqT (.at a) (.at b) μ Q := ⟨a, b, ta, tb, rfl, rfl, h, g, q⟩
theorem rd_isO {K : Frg} {C p : Addr} {fs : List (Str × D)} {μ : Mu} {Q : DQ} (h : μ p = some (.ins C fs)) (q : Q (.bl true) μ) : fIsiO K C [.at p, .at C] μ Q := ⟨_, rfl, .inl ⟨p, fs, rfl, h, q⟩⟩
theorem rd_isN' {K : Frg} {C : Addr} {d : D} {n : String} {μ : Mu} {Q : DQ} (a : Apart K C) (h : kindD μ d n) (hn : n ∈ dataTys) (q : Q (.bl false) μ) : fIsiO K C [d, .at C] μ Q := ⟨_, rfl, .inr ⟨n, h, a.sub n hn, q⟩⟩
end Dl
namespace Dl
open PySem PySem.Spec PyProof.Rows L2
variable {B : Bs}
/-- a comprehension whose turns change what stands: U tells it by a state -/
theorem lc_st {σ : Type} {g : WG} {t : WT} {a : WE} {vs : List Nat} {ρ : Rho} {Q : DQ} {ds : List D} {kp : Mu → Prop} {μ1 : Mu} (U : σ → Mu) (R : Nat → σ → List D → Prop) (s0 : σ) (sz : ds.length ≤ 1000000) (e0 : U s0 = μ1) (h0 : R 0 s0 []) (hU : ∀ s L, μ1 L = none → U s L = none)
    (hk : ∀ i s L acc, i ≤ ds.length → μ1 L = none → R i s acc → kp (put (U s) L (.lst acc))) (hd : ∀ s acc, acc.length ≤ ds.length → R ds.length s acc → Q (.lst acc) (U s))
    (hs : ∀ L i d s acc (K1 : DQ) (K2 : Mu → Prop), μ1 L = none → acc.length ≤ i → ds[i]? = some d → R i s acc → (∀ e s', R (i + 1) s' (acc ++ [e]) → K1 e (put (U s') L (.lst acc))) → (∀ s', R (i + 1) s' acc → K2 (put (U s') L (.lst acc))) →
      g d (wipeD ρ vs) (put (U s) L (.lst acc)) fun ρ2 μ2 => t ρ2 μ2 fun b μ3 => Br b (a ρ2 μ3 K1) (K2 μ3)) : LcB g t a vs ρ Q ds kp μ1 := by
  refine ⟨sz, fun L hL => ⟨fun i μ => ∃ s acc, μ = put (U s) L (.lst acc) ∧ acc.length ≤ i ∧ R i s acc, ⟨s0, [], by rw [e0], Nat.le_refl _, h0⟩, ?_, ?_, ?_⟩⟩
  · rintro i μ hi ⟨s, acc, rfl, _, r⟩
    exact hk i s L acc hi hL r
  · rintro i d μ hd ⟨s, acc, rfl, la, r⟩
    exact hs L i d s acc _ _ hL la hd r (fun e s' h2 => ⟨acc, put_same, la, s', acc ++ [e], put_put, by simp; omega, h2⟩) fun s' h2 => ⟨s', acc, rfl, by omega, h2⟩
  · rintro μ ⟨s, acc, rfl, la, r⟩
    exact .froze ((Less.refl (U s)).put (hU s L hL)) put_same (hU s L hL) (hd s acc la r)
theorem rd_eqSame {μ : Mu} {d : D} {p : PyData} {R : Bool → Prop} (h : Rs μ d p) (hd : p.depth ≤ 60) (q : R true) : EqQ μ d d R :=
  EqQ.of p p h h (by simp; omega) (by rw [SeqAt.eqv_refl_plain _ (Rs.plain _ _ h)]; exact q)
theorem less_at {μ μ0 : Mu} {a : Addr} {o : O} (h : Less μ μ0) (n : μ0 a = some o) : μ a = some o := by
  rcases h a with e | e
  · rw [e] at n; cases n
  · rw [← e]; exact n
theorem Ls.sq {μ : Mu} {d : D} {ds : List D} (h : Ls μ d ds) : Sq μ d ds := by
  cases d with
  | lst xs => exact h
  | «at» l => exact .inl h
  | _ => exact h.elim
theorem Ls.rs {μ : Mu} {d : D} {ds : List D} {ps : List PyData} (h : Ls μ d ds) (r : Rss μ ds ps) : Rs μ d (.list ps) := by
  cases d with
  | lst xs => cases (show xs = ds from h); exact .lst r
  | «at» l => exact .at h r
  | _ => exact h.elim
theorem Ls.kind {μ : Mu} {d : D} {ds : List D} (h : Ls μ d ds) : kindD μ d "list" := by
  cases d with
  | lst xs => exact rfl
  | «at» l => exact .inl ⟨⟨ds, h⟩, rfl⟩
  | _ => exact h.elim
theorem rd_lenL {μ : Mu} {d : D} {ds : List D} {Q : DQ} (h : Ls μ d ds) (q : Q (.int ds.length) μ) : fLen [d] μ Q := by
  cases d with
  | lst xs => cases (show xs = ds from h); exact rd_lenl q
  | «at» l => exact rd_lena h q
  | _ => exact h.elim
theorem rd_ixL {μ : Mu} {d z : D} {ds : List D} {i : Int} {Q : DQ} (h : Ls μ d ds) (hz : atI ds i = some z) (q : Q z μ) : fIx d (.int i) μ Q := by
  cases d with
  | lst xs => cases (show xs = ds from h); exact rd_ixl hz q
  | «at» l => exact rd_ixa h hz q
  | _ => exact h.elim
theorem rd_neL {μ : Mu} {d : D} {ds : List D} {ps : List PyData} {R : Bool → Prop} (h : Ls μ d ds) (r : Rss μ ds ps) (q : R ds.isEmpty) : EqQ μ d (.lst []) R := by
  refine EqQ.of (.list ps) (.list []) (h.rs r) (.lst .nil) (by simp [PyData.depth, PyData.depthAll]) ?_
  have e : PyData.eqv (.list ps) (.list []) = ds.isEmpty := by
    cases r with
    | nil => simp [PyData.eqv, PyData.eqvAll]
    | cons a b => simp [PyData.eqv, PyData.eqvAll]
  rw [e]
  exact q
theorem rd_listL {m : Bool} {μ : Mu} {d : D} {ds : List D} {Q : DQ} (h : Ls μ d ds) (q : New m ds μ Q) : fListOf m [d] μ Q := ⟨d, ds, rfl, h.sq, q⟩
theorem wk.same' {P : Rho → Mu → Prop} {ρ : Rho} {μ μ' : Mu} (l : Less μ μ') (h : P ρ μ') : wk P ρ μ := ⟨ρ, μ', .refl _, l, h⟩
end Dl
namespace Dl
open PySem PySem.Spec PyProof.Rows L2
variable {B : Bs}
/-! ### texts: walked, one sign in a text, joined -/
def chars (z : Str) : List D := z.cps.toList.map fun c => .str ⟨#[c]⟩
def wItS (a : WE) : WI := fun ρ μ Q => a ρ μ fun d μ1 => ∃ z, d = .str z ∧ Q (chars z) (fun _ => True) μ1
/-! ### list(d), sorted(d), list(d.values()) -/
section
variable {X : Cx}
def fInt1 : FN := fun ds μ Q => match ds with
  | [.int i] => Q (.int i) μ
  | [.bl b] => Q (.int (if b then 1 else 0)) μ
  | _ => False
theorem cd_int : CallR X (.type "int") (upFN fInt1) := CallR.of call_int1 fun xs H Q ⟨ds, μ, QD, v, mh, h, k⟩ => by
  unfold fInt1 at h
  split at h
  · rename_i i
    obtain ⟨v1, vs, rfl, r1, e⟩ := v
    rw [show vs = [] from e, show v1 = V.int i from r1]
    exact .inl ⟨i, rfl, k _ _ (lft_mk (d := .int _) mh rfl h)⟩
  · rename_i b
    obtain ⟨v1, vs, rfl, r1, e⟩ := v
    rw [show vs = [] from e, show v1 = V.bl b from r1]
    exact .inr ⟨b, rfl, k _ _ (lft_mk (d := .int _) mh rfl h)⟩
  · exact h.elim
/-! ### list methods: clear, remove, index -/
end
end Dl
namespace Dl
open PySem PySem.Spec PyProof.Rows L2
section
variable {X : Cx}
def rRemD (K : PySem.W.Frag) : V → List V → Hp → VK → Prop := fun x xs H Q => ∃ (l : Addr) (ys : List V) (y : V) (d : PyData) (ds : List PyData) (j : Nat) (z : PyData), x = .ref l ∧ xs = [y] ∧ H l = some (.lst ys) ∧ DpAll K H ys ds ∧ Dp K H y d ∧
  SeqAt.shaped (.list ds) = true ∧ SeqAt.shaped d = true ∧ ds[j]? = some z ∧ PyData.eqv z d = true ∧ (∀ (m : Nat) (z' : PyData), m < j → ds[m]? = some z' → PyData.eqv z' d = false) ∧ Q .non (upd H l (.lst (ys.eraseIdx j)))
theorem mt_removeD (room : X.A.units + 65 < cLine) : MtR X "list.remove" (rRemD X.K) := fun pins s σ H x xs v us Q I rx rxs ⟨l, ys, y, d, ds, j, z, ex, exs, hl, dl, dy, sl, sd, dz, ez, first, q⟩ => by
  subst ex exs
  obtain rfl : v = Value.ref l := rx
  obtain ⟨u, rfl, ru⟩ := rxs.one
  obtain ⟨big, vs, n, rel, len, obj⟩ := I.lstM hl
  obtain ⟨_, readY⟩ := Dp.reads I d y u dy ru
  obtain ⟨_, readL⟩ := Dp.readsAll I ds ys vs dl rel
  have lay : PyData.canLayAll0 ds = true := SeqAt.canLay_of_shaped sl
  have told : vs.map (SeqAt.readOf s.heap) = ds := SeqAt.readsAll_map ds vs _ lay readL
  have same := congrArg List.length told
  rw [List.length_map] at same
  have lt : j < vs.length := same ▸ (List.getElem?_eq_some_iff.mp dz).1
  have item : ∀ (m : Nat) (h : m < vs.toArray.size), ds[m]? = some (SeqAt.readOf s.heap vs.toArray[m]) := fun m h => by
    have h' : m < vs.length := by simpa using h
    rw [← told, List.getElem?_map, List.getElem?_eq_getElem h']
    rfl
  have sz := sizeLine_eq
  have lt2 : j < vs.toArray.size := by simpa using lt
  have atJ : PyData.eqv (SeqAt.readOf s.heap vs.toArray[j]) d = true := by
    have := item j lt2
    rw [dz] at this
    rw [← Option.some.inj this]
    exact ez
  have ahead : ∀ m (h : m < vs.toArray.size), m < j → PyData.eqv (SeqAt.readOf s.heap vs.toArray[m]) d = false := fun m h hm => first m _ hm (item m h)
  have less : (ys.eraseIdx j).length ≤ sizeLine := by
    rw [List.length_eraseIdx]
    split <;> omega
  exact call_meets PySem.F.slot_list_remove ⟨_, obj, rfl⟩ PySem.F.entry_list_remove (PySem.F.args_list_remove_2 _ _)
    (SeqAt.list_removeAt l vs.toArray n none #[] u (fun t => PyData.eqv (SeqAt.readOf s.heap t) d) j lt2 atJ ahead (by simp; omega))
    ⟨obj, SeqAt.items_eqAt (vs := vs.toArray) readL readY lay (SeqAt.canLay_of_shaped sd) (room_in_shaped sd room),
      .non, _, I.lset (its' := vs.eraseIdx j) (t' := s.toks) hl obj (List.eraseIdxIfInBounds_toArray ..) (rel.eraseIdx j) less, rfl, q⟩
/-- xs.remove(y) where y is there -/
def fRemove : D → FN := fun d ds μ Q => ∃ (l : Addr) (xs : List D) (ps : List PyData) (y : D) (q : PyData) (j : Nat) (z : PyData), d = .at l ∧ ds = [y] ∧ μ l = some (.lst xs) ∧ Rss μ xs ps ∧ Rs μ y q ∧ SeqAt.shaped (.list ps) = true ∧ SeqAt.shaped q = true ∧ ps[j]? = some z ∧ PyData.eqv z q = true ∧
  (∀ (m : Nat) (z' : PyData), m < j → ps[m]? = some z' → PyData.eqv z' q = false) ∧ Q .non (put μ l (.lst (xs.eraseIdx j)))
theorem md_remove (hu : X.A.units + 65 < cLine) : MtR X "list.remove" (upFM fRemove) := MtR.of (mt_removeD hu) fun x vs H Q ⟨d, ds, μ, QD, v1, v2, m, ⟨l, xs, ps, y, q, j, z, e1, e2, h1, h2, h3, h4, h5, h6, h7, h8, h9⟩, kk⟩ => by
  subst e1 e2
  obtain ⟨u, us, rfl, r1, e⟩ := v2
  rw [show us = [] from e, show x = V.ref l from v1]
  obtain ⟨ys, e1, g⟩ := m l _ h1
  exact ⟨l, ys, u, q, ps, j, z, rfl, rfl, e1, Rss.dp m ps _ _ h2 g, Rs.dp m q _ _ h3 r1, h4, h5, h6, h7, h8, kk _ _ (lft_set m h1 (g.eraseIdx j) (d := .non) rfl h9)⟩
end
variable {B : Bs}
/-! ### del xs[i] -/
def wDelL (o i : WE) : WS := fun DD ρ μ => o ρ μ fun d μ1 => i ρ μ1 fun e μ2 => ∃ l xs k j, d = .at l ∧ e = .int k ∧ μ2 l = some (.lst xs) ∧ -(2 ^ 63) ≤ k ∧ k < 2 ^ 63 ∧ ixN xs.length k = some j ∧ DD.nx ρ (put μ2 l (.lst (xs.eraseIdx j)))
/-! ### d.pop(k) -/
def wDPop (d k : WE) : WE := fun ρ μ Q => d ρ μ fun e μ1 => (∃ p kvs, e = .at p ∧ μ1 p = some (.dK kvs)) ∧ k ρ μ1 fun f μ2 => ∃ p kvs k v, e = .at p ∧ μ2 p = some (.dK kvs) ∧ keyD f = some k ∧ atD kvs k = some v ∧ Q v (put μ2 p (.dK (dropD kvs k)))
/-! ### text.join(list of texts) -/
def wJoin (o a : WE) : WE := fun ρ μ Q => o ρ μ fun d μ1 => (∃ x, d = .str x) ∧ a ρ μ1 fun e μ2 => ∃ x ys, d = .str x ∧ Ls μ2 e (ys.map .str) ∧ (ys.map (·.length)).sum + ys.length * x.length ≤ 1000000 ∧ Q (.str (Txt.join x ys)) μ2
end Dl
namespace Dl
open PySem PySem.Spec PyProof.Rows L2
variable {B : Bs}
/-! ### a result told with less -/
def wWk (a : WE) : WE := fun ρ μ Q => a ρ μ (wkR Q)
/-! ### dicts made of pairs -/
def mergeD (kvs more : List (Key × D)) : List (Key × D) := more.foldl (fun acc kv => putD acc kv.1 kv.2) kvs
/-! ### {k: v, ..} -/
def wPairs : List (WE × WE) → Rho → Mu → (List (D × D) → Mu → Prop) → Prop
  | [], _, μ, Q => Q [] μ
  | (a, b) :: r, ρ, μ, Q => a ρ μ fun d μ1 => b ρ μ1 fun e μ2 => wPairs r ρ μ2 fun ps μ3 => Q ((d, e) :: ps) μ3
def wDisp (ws : List (WE × WE)) : WE := fun ρ μ Q => ∀ p, μ p = none → wPairs ws ρ (put μ p (.dK [])) fun ps μ2 => μ2 p = some (.dK []) ∧ ∃ kvs : List (Key × D), ps = kvs.map (fun q => (Dk q.1, q.2)) ∧ kvs.length ≤ 15 ∧ Q (.at p) (put μ2 p (.dK (mergeD [] kvs)))
end Dl
namespace Dl
open PySem PySem.Spec PyProof.Rows L2
variable {B : Bs}
section
variable {X : Cx} {tg e : Expr} {w : WE}
/-- a dict's keys walked, under the lock -/
def wKeys (w : WE) : WI := fun ρ μ Q => w ρ μ fun d μ1 => ∃ p o ks kvs, d = .at p ∧ μ1 p = some (.fz o ks kvs) ∧ Q (kvs.map fun q => Dk q.1) (fun μ => μ p = some (.fz o ks kvs)) μ1
/-- enumerate(xs) -/
def wEnum (a : WA) : WI := fun ρ μ Q => a ρ μ fun vs μ1 => ∃ d xs, vs = [d] ∧ Lr μ1 d xs ∧ Q (xs.zipIdx.map fun q => .tup [.int q.2, q.1]) (fun μ => Lr μ d xs) μ1
/-- a tuple's slice that is not the whole -/
def wSlT (o : WE) (lo hi : WO) : WE := fun ρ μ Q => o ρ μ fun d μ1 => lo ρ μ1 fun l μ2 => hi ρ μ2 fun h μ3 => ∃ xs, d = .tup xs ∧ ¬ (HT.sIx xs.length 0 l = 0 ∧ HT.sIx xs.length xs.length h = xs.length) ∧ Q (.tup (cutD xs l h)) μ3
end
/-! ### {k: v for target in iter}: L the dict while it grows -/
def wDc (wi : WI) (g : WG) (t : WT) (a b : WE) (vs : List Nat) : WE := fun ρ μ Q => wi ρ μ fun ds kp μ1 => ds.length ≤ 1000000 ∧ ∀ L, μ1 L = none → ∃ P : Nat → Mu → Prop, P 0 (put μ1 L (.dK [])) ∧ (∀ i μ, i ≤ ds.length → P i μ → kp μ) ∧
  (∀ i d μ, ds[i]? = some d → P i μ → g d (wipeD ρ vs) μ fun ρ2 μ2 => t ρ2 μ2 fun c μ3 => Br c (a ρ2 μ3 fun e μ4 => b ρ2 μ4 fun f μ5 => ∃ k acc, keyD e = some k ∧ μ5 L = some (.dK acc) ∧ acc.length ≤ i ∧ P (i + 1) (put μ5 L (.dK (putD acc k f)))) (P (i + 1) μ3)) ∧
  ∀ μ, P ds.length μ → wkR Q (.at L) μ
end Dl
namespace Dl
open PySem PySem.Spec PyProof.Rows L2
variable {B : Bs}
/-! ### list(d.values()) -/
section
variable {X : Cx} {e : Expr} {p apos cpos pos : Pos} {w : WE}
def wValsL (m : Bool) (a : WE) : WE := fun ρ μ Q => a ρ μ fun d μ1 => ∃ p kvs, d = .at p ∧ μ1 p = some (.dK kvs) ∧ New m (kvs.map (·.2)) μ1 Q
end
/-! ### a keyword-only parameter that is left out, with a text as its default -/
end Dl
namespace Dl
open PySem PySem.Spec PyProof.Rows L2
end Dl
namespace Dl
open PySem PySem.Spec PyProof.Rows L2
/-! ### cells: what stands at some addresses, no two alike -/
abbrev Cells := List (Addr × O)
structure Sits (μ : Mu) (cs : Cells) : Prop where
  at_ : ∀ q ∈ cs, μ q.1 = some q.2
  nd : (cs.map (·.1)).Nodup
def foot (cs : Cells) : List Addr := cs.map (·.1)
theorem nd_eq {α β : Type} {f : α → β} : ∀ {l : List α}, (l.map f).Nodup → ∀ {x y : α}, x ∈ l → y ∈ l → f x = f y → x = y
  | [], _, _, _, h, _, _ => by cases h
  | z :: l, nd, x, y, hx, hy, e => by
    rw [List.map_cons, List.nodup_cons] at nd
    rcases List.mem_cons.mp hx with e1 | h1 <;> rcases List.mem_cons.mp hy with e2 | h2
    · rw [e1, e2]
    · exact (nd.1 (by rw [← e1, e]; exact List.mem_map.mpr ⟨y, h2, rfl⟩)).elim
    · exact (nd.1 (by rw [← e2, ← e]; exact List.mem_map.mpr ⟨x, h1, rfl⟩)).elim
    · exact nd_eq nd.2 h1 h2 e
theorem Sits.upd {μ : Mu} {cs cs' : Cells} {a : Addr} {o : O} (s : Sits μ cs) (e : cs'.map (·.1) = cs.map (·.1)) (h : ∀ q ∈ cs', q = (a, o) ∨ q ∈ cs ∧ q.1 ≠ a) : Sits (put μ a o) cs' :=
  ⟨fun q hq => by
    rcases h q hq with rfl | ⟨h1, h2⟩
    · exact put_same
    · rw [put_ne h2]
      exact s.at_ q h1, by rw [e]; exact s.nd⟩
theorem Sits.ne {μ : Mu} {cs : Cells} (s : Sits μ cs) {q q' : Addr × O} (h : q ∈ cs) (h' : q' ∈ cs) (n : q ≠ q') : q.1 ≠ q'.1 := fun e => n (nd_eq s.nd h h' e)
theorem Sits.out {μ μ' : Mu} {cs : Cells} (s : Sits μ cs) (h : ∀ a ∈ foot cs, μ' a = μ a) : Sits μ' cs := ⟨fun q hq => by rw [h q.1 (List.mem_map.mpr ⟨q, hq, rfl⟩)]; exact s.at_ q hq, s.nd⟩
theorem Sits.put {μ : Mu} {cs : Cells} {a : Addr} {o : O} (s : Sits μ cs) (h : a ∉ foot cs) : Sits (put μ a o) cs := s.out fun b hb => put_ne fun e => h (e ▸ hb)
theorem Sits.there {μ : Mu} {cs : Cells} (s : Sits μ cs) {a : Addr} (h : a ∈ foot cs) : ∃ o, μ a = some o := by
  obtain ⟨q, hq, rfl⟩ := List.mem_map.mp h
  exact ⟨_, s.at_ q hq⟩
theorem Sits.fresh {μ : Mu} {cs : Cells} (s : Sits μ cs) {a : Addr} (h : μ a = none) : a ∉ foot cs := fun z => by
  obtain ⟨o, e⟩ := s.there z
  rw [h] at e
  cases e
theorem Sits.less {μ μ' : Mu} {cs : Cells} (s : Sits μ cs) (l : Less μ' μ) : Sits μ' cs := ⟨fun q hq => less_at l (s.at_ q hq), s.nd⟩
/-- all else is as it was -/
def Same (F : List Addr) (μ μ' : Mu) : Prop := ∀ a, a ∉ F → μ' a = μ a
theorem Same.refl (F : List Addr) (μ : Mu) : Same F μ μ := fun _ _ => rfl
theorem Same.trans {F : List Addr} {a b c : Mu} (h : Same F a b) (g : Same F b c) : Same F a c := fun x n => (g x n).trans (h x n)
theorem Same.put {F : List Addr} {μ : Mu} {a : Addr} {o : O} (h : a ∈ F) : Same F μ (put μ a o) := fun x n => put_ne fun e => n (e ▸ h)
theorem Same.at {F : List Addr} {μ μ' : Mu} (h : Same F μ μ') {a : Addr} {o : O} (n : a ∉ F) (e : μ a = some o) : μ' a = some o := (h a n).trans e
/-! ### a store -/
inductive Rw where
  | plain (x : Int) | weak (x : Int) | keyed (k v : Int)
  deriving DecidableEq
def Rw.D : Rw → D
  | .plain x => .tup [.str "plain", .int x]
  | .weak x => .tup [.str "weak", .int x]
  | .keyed k v => .tup [.str "keyed", .int k, .int v]
def joint (o k : Int) : List Int := if o = k then [o] else if o ≤ k then [o, k] else [k, o]
def Rw.holds (o : Int) : Rw → List (Int × List Int)
  | .plain x => [(x, [o])]
  | .weak _ => []
  | .keyed k v => [(v, joint o k)]
/-- a thing: its number, the addresses of its slots and holds, what stands there, its last word -/
structure Th where
  n : Int
  sa : Addr
  ka : Addr
  sl : List (Str × Rw)
  w : Str
  ke : List (List Int)
structure Hd where
  nm : Str
  ra : Addr
  row : List Int
structure SC where
  t : Addr
  r : Addr
  f : Addr
  l : Addr
  k : Addr
  hs : List Hd
  ts : List Th
  many : Int
  fx : List (Str × D)
  xc : Cells
def hoD (h : List Int) : D := .tup (h.map .int)
def slK (sl : List (Str × Rw)) : List (Key × D) := sl.map fun q => (.inr q.1, q.2.D)
def SC.flds (S : SC) : List (Str × D) := (("rows" : Str), D.at S.r) :: (("filled" : Str), D.at S.f) :: (("last" : Str), D.at S.l) :: (("kept" : Str), D.at S.k) :: (("many" : Str), D.int S.many) :: S.fx
def SC.dr (S : SC) : List (Key × D) := S.hs.map fun h => (.inr h.nm, .at h.ra)
def SC.df (S : SC) : List (Key × D) := S.ts.map fun x => (.inl x.n, .at x.sa)
def SC.dl (S : SC) : List (Key × D) := S.ts.map fun x => (.inl x.n, .str x.w)
def SC.dk (S : SC) : List (Key × D) := S.ts.map fun x => (.inl x.n, .at x.ka)
def SC.cells (C : Addr) (S : SC) : Cells := (S.t, .ins C S.flds) :: (S.r, .dK S.dr) :: (S.f, .dK S.df) :: (S.l, .dK S.dl) :: (S.k, .dK S.dk) ::
  (S.hs.map (fun h => (h.ra, O.lst (h.row.map .int))) ++ (S.ts.map (fun x => (x.sa, O.dK (slK x.sl))) ++ (S.ts.map (fun x => (x.ka, O.lst (x.ke.map hoD))) ++ S.xc)))
/-- the methods' names: no field bears one -/
def mths : List Str := ([ "sort_word", "anew", "copy_more", "marks_of", "come_in", "done", "add_hold", "end_hold", "holds_by", "hands", "things", "made", "has_thing", "want_thing", "want_hand", "want_had", "want_room", "want_owner", "had", "word_of", "slots", "in_slot", "have", "lose", "clear_slot", "fill", "make", "put", "show", "tie", "empty", "take", "give", "drop", "copied", "shape_of", "shape", "depth_of", "heft", "weight_of", "is_adrift", "is_loose", "loose", "deepest", "set_depth", "set_depths", "sink", "squeeze", "falls", "last_words", "crossing", "put_holds", "take_holds", "next_group", "plain_of", "fall", "cut_off", "settle"] : List String).map Str.ofString
structure St (C : Addr) (μ : Mu) (S : SC) : Prop where
  sits : Sits μ (S.cells C)
  hn : (S.hs.map Hd.nm).Nodup
  tn : (S.ts.map Th.n).Nodup
  mt : ∀ m ∈ mths, S.fx.lookup m = none
theorem mths_no : ∀ m ∈ mths, m ≠ "rows" ∧ m ≠ "filled" ∧ m ≠ "last" ∧ m ≠ "kept" ∧ m ≠ "many" := by decide +kernel
theorem look_ne {m k : Str} {d : D} {fs : List (Str × D)} (h : m ≠ k) : List.lookup m ((k, d) :: fs) = List.lookup m fs := by
  rw [List.lookup_cons]
  have : (m == k) = false := by simpa using h
  rw [this]
theorem St.lkm {C : Addr} {μ : Mu} {S : SC} (s : St C μ S) {m : Str} (h : m ∈ mths) : S.flds.lookup m = none := by
  obtain ⟨h1, h2, h3, h4, h5⟩ := mths_no m h
  unfold SC.flds
  rw [look_ne h1, look_ne h2, look_ne h3, look_ne h4, look_ne h5]
  exact s.mt m h
section
variable {C : Addr} {μ : Mu} {S : SC}
theorem St.ob (s : St C μ S) : μ S.t = some (.ins C S.flds) := s.sits.at_ (S.t, _) (by simp [SC.cells])
theorem St.rows (s : St C μ S) : μ S.r = some (.dK S.dr) := s.sits.at_ (S.r, _) (by simp [SC.cells])
theorem St.last (s : St C μ S) : μ S.l = some (.dK S.dl) := s.sits.at_ (S.l, _) (by simp [SC.cells])
theorem St.kept (s : St C μ S) : μ S.k = some (.dK S.dk) := s.sits.at_ (S.k, _) (by simp [SC.cells])
theorem mem_h {h : Hd} (m : h ∈ S.hs) : (h.ra, O.lst (h.row.map .int)) ∈ S.cells C := by
  simp only [SC.cells, List.mem_cons, List.mem_append, List.mem_map]
  exact .inr (.inr (.inr (.inr (.inr (.inl ⟨h, m, rfl⟩)))))
theorem mem_s {x : Th} (m : x ∈ S.ts) : (x.sa, O.dK (slK x.sl)) ∈ S.cells C := by
  simp only [SC.cells, List.mem_cons, List.mem_append, List.mem_map]
  exact .inr (.inr (.inr (.inr (.inr (.inr (.inl ⟨x, m, rfl⟩))))))
theorem mem_k {x : Th} (m : x ∈ S.ts) : (x.ka, O.lst (x.ke.map hoD)) ∈ S.cells C := by
  simp only [SC.cells, List.mem_cons, List.mem_append, List.mem_map]
  exact .inr (.inr (.inr (.inr (.inr (.inr (.inr (.inl ⟨x, m, rfl⟩)))))))
theorem St.row (s : St C μ S) {h : Hd} (m : h ∈ S.hs) : μ h.ra = some (.lst (h.row.map .int)) := s.sits.at_ _ (mem_h m)
theorem St.slots (s : St C μ S) {x : Th} (m : x ∈ S.ts) : μ x.sa = some (.dK (slK x.sl)) := s.sits.at_ _ (mem_s m)
theorem St.holds (s : St C μ S) {x : Th} (m : x ∈ S.ts) : μ x.ka = some (.lst (x.ke.map hoD)) := s.sits.at_ _ (mem_k m)
/-! a hand's row, a thing's slots, holds, otherwise -/
def SC.modH (S : SC) (nm : Str) (f : Hd → Hd) : SC := { S with hs := S.hs.map fun h => if h.nm = nm then f h else h }
def SC.modT (S : SC) (n : Int) (f : Th → Th) : SC := { S with ts := S.ts.map fun x => if x.n = n then f x else x }
/-- the addresses, part by part -/
structure Dj (S : SC) : Prop where
  ra : (S.hs.map Hd.ra).Nodup
  sa : (S.ts.map Th.sa).Nodup
  ka : (S.ts.map Th.ka).Nodup
  rs : ∀ h ∈ S.hs, ∀ x ∈ S.ts, h.ra ≠ x.sa
  rk : ∀ h ∈ S.hs, ∀ x ∈ S.ts, h.ra ≠ x.ka
  sk : ∀ x ∈ S.ts, ∀ y ∈ S.ts, x.sa ≠ y.ka
  rx : ∀ h ∈ S.hs, ∀ q ∈ S.xc, h.ra ≠ q.1
  sx : ∀ x ∈ S.ts, ∀ q ∈ S.xc, x.sa ≠ q.1
  kx : ∀ x ∈ S.ts, ∀ q ∈ S.xc, x.ka ≠ q.1
  xx : (S.xc.map (·.1)).Nodup
theorem foot_eq : foot (S.cells C) = S.t :: S.r :: S.f :: S.l :: S.k :: (S.hs.map Hd.ra ++ (S.ts.map Th.sa ++ (S.ts.map Th.ka ++ S.xc.map (·.1)))) := by
  simp only [foot, SC.cells, List.map_cons, List.map_append, List.map_map]
  rfl
theorem St.dj (s : St C μ S) : Dj S := by
  have nd : (foot (S.cells C)).Nodup := s.sits.nd
  rw [foot_eq] at nd
  simp only [List.nodup_cons] at nd
  have n1 := List.nodup_append.mp nd.2.2.2.2.2
  have n2 := List.nodup_append.mp n1.2.1
  have n3 := List.nodup_append.mp n2.2.1
  have mk : ∀ {α β : Type} {f : α → β} {l : List α} {x : α}, x ∈ l → f x ∈ l.map f := fun h => List.mem_map.mpr ⟨_, h, rfl⟩
  exact ⟨n1.1, n2.1, n3.1, fun h hh x hx => n1.2.2 _ (mk hh) _ (List.mem_append.mpr (.inl (mk hx))), fun h hh x hx => n1.2.2 _ (mk hh) _ (List.mem_append.mpr (.inr (List.mem_append.mpr (.inl (mk hx))))),
    fun x hx y hy => n2.2.2 _ (mk hx) _ (List.mem_append.mpr (.inl (mk hy))), fun h hh q hq => n1.2.2 _ (mk hh) _ (List.mem_append.mpr (.inr (List.mem_append.mpr (.inr (mk hq))))),
    fun x hx q hq => n2.2.2 _ (mk hx) _ (List.mem_append.mpr (.inr (mk hq))), fun x hx q hq => n3.2.2 _ (mk hx) _ (mk hq), n3.2.1⟩
theorem St.head (s : St C μ S) {a : Addr} (h : a ∈ S.hs.map Hd.ra ++ (S.ts.map Th.sa ++ (S.ts.map Th.ka ++ S.xc.map (·.1)))) : S.t ≠ a ∧ S.r ≠ a ∧ S.f ≠ a ∧ S.l ≠ a ∧ S.k ≠ a := by
  have nd : (foot (S.cells C)).Nodup := s.sits.nd
  rw [foot_eq] at nd
  simp only [List.nodup_cons, List.mem_cons, not_or] at nd
  refine ⟨fun e => nd.1.2.2.2.2 (e ▸ h), fun e => nd.2.1.2.2.2 (e ▸ h), fun e => nd.2.2.1.2.2 (e ▸ h), fun e => nd.2.2.2.1.2 (e ▸ h), fun e => nd.2.2.2.2.1 (e ▸ h)⟩
theorem in_ra {h : Hd} (m : h ∈ S.hs) : h.ra ∈ S.hs.map Hd.ra ++ (S.ts.map Th.sa ++ (S.ts.map Th.ka ++ S.xc.map (·.1))) := List.mem_append.mpr (.inl (List.mem_map.mpr ⟨h, m, rfl⟩))
theorem in_sa {x : Th} (m : x ∈ S.ts) : x.sa ∈ S.hs.map Hd.ra ++ (S.ts.map Th.sa ++ (S.ts.map Th.ka ++ S.xc.map (·.1))) := List.mem_append.mpr (.inr (List.mem_append.mpr (.inl (List.mem_map.mpr ⟨x, m, rfl⟩))))
theorem in_ka {x : Th} (m : x ∈ S.ts) : x.ka ∈ S.hs.map Hd.ra ++ (S.ts.map Th.sa ++ (S.ts.map Th.ka ++ S.xc.map (·.1))) := List.mem_append.mpr (.inr (List.mem_append.mpr (.inr (List.mem_append.mpr (.inl (List.mem_map.mpr ⟨x, m, rfl⟩))))))
theorem foot_of {a : Addr} (h : a ∈ S.hs.map Hd.ra ++ (S.ts.map Th.sa ++ (S.ts.map Th.ka ++ S.xc.map (·.1)))) : a ∈ foot (S.cells C) := by
  rw [foot_eq]
  simp only [List.mem_cons]
  exact .inr (.inr (.inr (.inr (.inr h))))
/-- what a changed cell leaves -/
theorem St.cell (s : St C μ S) {S' : SC} {a : Addr} {o : O} (ia : a ∈ S.hs.map Hd.ra ++ (S.ts.map Th.sa ++ (S.ts.map Th.ka ++ S.xc.map (·.1)))) (e : S'.t = S.t ∧ S'.r = S.r ∧ S'.f = S.f ∧ S'.l = S.l ∧ S'.k = S.k ∧ S'.flds = S.flds ∧ S'.xc = S.xc) (e1 : S'.dr = S.dr) (e2 : S'.df = S.df) (e3 : S'.dl = S.dl) (e4 : S'.dk = S.dk)
    (ra : S'.hs.map Hd.ra = S.hs.map Hd.ra) (sa : S'.ts.map Th.sa = S.ts.map Th.sa) (ka : S'.ts.map Th.ka = S.ts.map Th.ka) (hh : ∀ h ∈ S'.hs, (h.ra, O.lst (h.row.map .int)) = (a, o) ∨ ∃ g ∈ S.hs, g.ra = h.ra ∧ g.row = h.row ∧ g.ra ≠ a)
    (hs : ∀ x ∈ S'.ts, (x.sa, O.dK (slK x.sl)) = (a, o) ∨ ∃ y ∈ S.ts, y.sa = x.sa ∧ y.sl = x.sl ∧ y.sa ≠ a) (hk : ∀ x ∈ S'.ts, (x.ka, O.lst (x.ke.map hoD)) = (a, o) ∨ ∃ y ∈ S.ts, y.ka = x.ka ∧ y.ke = x.ke ∧ y.ka ≠ a) (hx : ∀ q ∈ S.xc, q.1 ≠ a) (hn : (S'.hs.map Hd.nm).Nodup) (tn : (S'.ts.map Th.n).Nodup) (ef : S'.fx = S.fx := by rfl) : St C (put μ a o) S' := by
  obtain ⟨t1, t2, t3, t4, t5⟩ := s.head ia
  obtain ⟨e5, e6, e7, e8, e9, e10, e11⟩ := e
  refine ⟨s.sits.upd ?_ fun q hq => ?_, hn, tn, by rw [ef]; exact s.mt⟩
  · show foot (S'.cells C) = foot (S.cells C)
    rw [foot_eq, foot_eq, ra, sa, ka, e5, e6, e7, e8, e9, e11]
  · simp only [SC.cells, List.mem_cons, List.mem_append, List.mem_map] at hq
    rcases hq with rfl | rfl | rfl | rfl | rfl | ⟨h, m, rfl⟩ | ⟨x, m, rfl⟩ | ⟨x, m, rfl⟩ | m
    · rw [e5, e10]
      exact .inr ⟨by simp [SC.cells], t1⟩
    · rw [e6, e1]
      exact .inr ⟨by simp [SC.cells], t2⟩
    · rw [e7, e2]
      exact .inr ⟨by simp [SC.cells], t3⟩
    · rw [e8, e3]
      exact .inr ⟨by simp [SC.cells], t4⟩
    · rw [e9, e4]
      exact .inr ⟨by simp [SC.cells], t5⟩
    · rcases hh h m with z | ⟨g, mg, g1, g2, g3⟩
      · exact .inl z
      · rw [← g1, ← g2]
        exact .inr ⟨mem_h mg, g3⟩
    · rcases hs x m with z | ⟨g, mg, g1, g2, g3⟩
      · exact .inl z
      · rw [← g1, ← g2]
        exact .inr ⟨mem_s mg, g3⟩
    · rcases hk x m with z | ⟨g, mg, g1, g2, g3⟩
      · exact .inl z
      · rw [← g1, ← g2]
        exact .inr ⟨mem_k mg, g3⟩
    · rw [e11] at m
      refine .inr ⟨?_, hx q m⟩
      simp only [SC.cells, List.mem_cons, List.mem_append]
      exact .inr (.inr (.inr (.inr (.inr (.inr (.inr (.inr m)))))))
theorem modH_map {β : Type} {g : Hd → β} {nm : Str} {f : Hd → Hd} (h : ∀ x, g (f x) = g x) : (S.modH nm f).hs.map g = S.hs.map g := by
  unfold SC.modH
  rw [List.map_map]
  refine List.map_congr_left fun x _ => ?_
  show g (if x.nm = nm then f x else x) = g x
  split
  · exact h x
  · rfl
theorem modT_map {β : Type} {g : Th → β} {n : Int} {f : Th → Th} (h : ∀ x, g (f x) = g x) : (S.modT n f).ts.map g = S.ts.map g := by
  unfold SC.modT
  rw [List.map_map]
  refine List.map_congr_left fun x _ => ?_
  show g (if x.n = n then f x else x) = g x
  split
  · exact h x
  · rfl
theorem mem_modH {nm : Str} {f : Hd → Hd} {h : Hd} (m : h ∈ (S.modH nm f).hs) : ∃ g ∈ S.hs, h = if g.nm = nm then f g else g := by
  obtain ⟨g, hg, e⟩ := List.mem_map.mp m
  exact ⟨g, hg, e.symm⟩
theorem mem_modT {n : Int} {f : Th → Th} {x : Th} (m : x ∈ (S.modT n f).ts) : ∃ y ∈ S.ts, x = if y.n = n then f y else y := by
  obtain ⟨g, hg, e⟩ := List.mem_map.mp m
  exact ⟨g, hg, e.symm⟩
/-- a hand's row otherwise -/
theorem St.setRow (s : St C μ S) {h : Hd} (m : h ∈ S.hs) (row : List Int) : St C (put μ h.ra (.lst (row.map .int))) (S.modH h.nm fun g => { g with row := row }) := by
  have d := s.dj
  refine s.cell (in_ra m) ⟨rfl, rfl, rfl, rfl, rfl, rfl, rfl⟩ (modH_map fun _ => rfl) rfl rfl rfl (modH_map fun _ => rfl) rfl rfl (fun g mg => ?_) (fun x mx => .inr ⟨x, mx, rfl, rfl, (d.rs h m x mx).symm⟩) (fun x mx => .inr ⟨x, mx, rfl, rfl, (d.rk h m x mx).symm⟩) (fun q mq => (d.rx h m q mq).symm) ?_ s.tn
  · obtain ⟨g0, m0, rfl⟩ := mem_modH mg
    by_cases e : g0.nm = h.nm
    · cases nd_eq s.hn m0 m e
      rw [if_pos rfl]
      exact .inl rfl
    · rw [if_neg e]
      exact .inr ⟨g0, m0, rfl, rfl, fun z => e (by rw [nd_eq d.ra m0 m z])⟩
  · have e := modH_map (S := S) (g := Hd.nm) (nm := h.nm) (f := fun g => { g with row := row }) fun _ => rfl
    rw [e]
    exact s.hn
/-- a thing's slots otherwise -/
theorem St.setSl (s : St C μ S) {x : Th} (m : x ∈ S.ts) (sl : List (Str × Rw)) : St C (put μ x.sa (.dK (slK sl))) (S.modT x.n fun y => { y with sl := sl }) := by
  have d := s.dj
  refine s.cell (in_sa m) ⟨rfl, rfl, rfl, rfl, rfl, rfl, rfl⟩ rfl (modT_map fun _ => rfl) (modT_map fun _ => rfl) (modT_map fun _ => rfl) rfl (modT_map fun _ => rfl) (modT_map fun _ => rfl) (fun g mg => .inr ⟨g, mg, rfl, rfl, d.rs g mg x m⟩) (fun y my => ?_) (fun y my => ?_) (fun q mq => (d.sx x m q mq).symm) s.hn ?_
  · obtain ⟨y0, m0, rfl⟩ := mem_modT my
    by_cases e : y0.n = x.n
    · cases nd_eq s.tn m0 m e
      rw [if_pos rfl]
      exact .inl rfl
    · rw [if_neg e]
      exact .inr ⟨y0, m0, rfl, rfl, fun z => e (by rw [nd_eq d.sa m0 m z])⟩
  · obtain ⟨y0, m0, rfl⟩ := mem_modT my
    refine .inr ⟨y0, m0, ?_, ?_, (d.sk x m y0 m0).symm⟩ <;> split <;> rfl
  · have e := modT_map (S := S) (g := Th.n) (n := x.n) (f := fun y => { y with sl := sl }) fun _ => rfl
    rw [e]
    exact s.tn
end
end Dl
namespace Dl
open PySem PySem.Spec PyProof.Rows L2
/-! ### dicts told by a list -/
section
variable {α κ : Type} [DecidableEq κ]
theorem at_in {f : α → κ} {g : α → D} : ∀ {l : List α}, (l.map f).Nodup → ∀ {x : α}, x ∈ l → atD (l.map fun x => (f x, g x)) (f x) = some (g x)
  | [], _, _, h => by cases h
  | z :: l, nd, x, h => by
    rw [List.map_cons, List.nodup_cons] at nd
    unfold atD
    rw [List.map_cons, List.find?_cons]
    by_cases e : f z = f x
    · rw [decide_eq_true (show ((f z, g z) : κ × D).1 = f x from e)]
      rcases List.mem_cons.mp h with rfl | h
      · rfl
      · exact (nd.1 (by rw [e]; exact List.mem_map.mpr ⟨x, h, rfl⟩)).elim
    · rw [decide_eq_false (show ¬ ((f z, g z) : κ × D).1 = f x from e)]
      rcases List.mem_cons.mp h with rfl | h
      · exact (e rfl).elim
      · exact at_in nd.2 h
theorem at_is {f : α → κ} {g : α → D} {k : κ} : ∀ {l : List α}, (atD (l.map fun x => (f x, g x)) k).isSome = decide (k ∈ l.map f)
  | [] => rfl
  | z :: l => by
    unfold atD
    rw [List.map_cons, List.find?_cons]
    by_cases e : f z = k
    · rw [decide_eq_true (show ((f z, g z) : κ × D).1 = k from e), decide_eq_true (by rw [List.map_cons, e]; exact List.mem_cons_self)]
      rfl
    · rw [decide_eq_false (show ¬ ((f z, g z) : κ × D).1 = k from e)]
      have ih := at_is (f := f) (g := g) (k := k) (l := l)
      unfold atD at ih
      rw [ih]
      refine decide_eq_decide.mpr ⟨fun h => List.mem_cons_of_mem _ h, fun h => ?_⟩
      rcases List.mem_cons.mp h with h | h
      · exact (e h.symm).elim
      · exact h
theorem any_is {f : α → κ} {g : α → D} {k : κ} (l : List α) : ((l.map fun x => (f x, g x)).any fun kv => decide (kv.1 = k)) = decide (k ∈ l.map f) := by
  induction l with
  | nil => rfl
  | cons z l ih =>
    rw [List.map_cons, List.any_cons, ih, List.map_cons]
    by_cases e : f z = k
    · simp [e]
    · have e' : ¬ k = f z := fun h => e h.symm
      simp [e, e']
theorem put_new {f : α → κ} {g : α → D} {k : κ} {v : D} {l : List α} (h : k ∉ l.map f) : putD (l.map fun x => (f x, g x)) k v = (l.map fun x => (f x, g x)) ++ [(k, v)] := by
  unfold putD
  rw [any_is, decide_eq_false h]
  rfl
end
theorem nodup_inr {α : Type} {f : α → Str} : ∀ {l : List α}, (l.map f).Nodup → (l.map fun x => (Sum.inr (f x) : Key)).Nodup
  | [], _ => List.nodup_nil
  | x :: l, h => by
    rw [List.map_cons, List.nodup_cons] at h
    rw [List.map_cons, List.nodup_cons]
    refine ⟨fun m => h.1 ?_, nodup_inr h.2⟩
    obtain ⟨y, hy, e⟩ := List.mem_map.mp m
    exact List.mem_map.mpr ⟨y, hy, Sum.inr.inj e⟩
theorem mem_inr {α : Type} {f : α → Str} {l : List α} {k : Str} : (Sum.inr k : Key) ∈ (l.map fun x => (Sum.inr (f x) : Key)) ↔ k ∈ l.map f := by
  simp only [List.mem_map, Sum.inr.injEq]
/-! ### slots -/
def getA (sl : List (Str × Rw)) (k : Str) : Option Rw := (sl.find? fun q => decide (q.1 = k)).map (·.2)
def dropA (sl : List (Str × Rw)) (k : Str) : List (Str × Rw) := sl.filter fun q => decide (q.1 ≠ k)
def putA (sl : List (Str × Rw)) (k : Str) (r : Rw) : List (Str × Rw) := if k ∈ sl.map (·.1) then sl.map (fun q => if q.1 = k then (q.1, r) else q) else sl ++ [(k, r)]
theorem slK_at (sl : List (Str × Rw)) (k : Str) : atD (slK sl) (.inr k) = (getA sl k).map Rw.D := by
  unfold slK getA atD
  induction sl with
  | nil => rfl
  | cons q sl ih =>
    rw [List.map_cons, List.find?_cons, List.find?_cons]
    by_cases e : q.1 = k
    · rw [decide_eq_true e, decide_eq_true (show (((Sum.inr q.1 : Key), q.2.D) : Key × D).1 = .inr k from by rw [e])]
      rfl
    · rw [decide_eq_false e, decide_eq_false (show ¬ (((Sum.inr q.1 : Key), q.2.D) : Key × D).1 = .inr k from fun h => e (Sum.inr.inj h))]
      exact ih
theorem getA_some {sl : List (Str × Rw)} {k : Str} {r : Rw} (h : getA sl k = some r) : (k, r) ∈ sl := by
  unfold getA at h
  cases e : sl.find? fun q => decide (q.1 = k) with
  | none => rw [e] at h; cases h
  | some q =>
    rw [e] at h
    have h1 := List.mem_of_find?_eq_some e
    have h2 := List.find?_some e
    have h3 : q.1 = k := by simpa using h2
    have h4 : q.2 = r := by simpa using h
    rw [← h3, ← h4]
    exact h1
theorem getA_is {sl : List (Str × Rw)} {k : Str} : (getA sl k).isSome = decide (k ∈ sl.map (·.1)) := by
  have g := at_is (κ := Key) (f := fun q : Str × Rw => Sum.inr q.1) (g := fun q => q.2.D) (k := .inr k) (l := sl)
  have e := slK_at sl k
  unfold slK at e
  rw [e, Option.isSome_map] at g
  rw [g]
  exact decide_eq_decide.mpr mem_inr
/-! ### a store's dicts read -/
/-! ### a new thing -/
def SC.addTh (S : SC) (x : Th) : SC := { S with ts := S.ts ++ [x], many := S.many + 1 }
section
variable {C : Addr} {μ μ1 : Mu} {S : SC}
theorem St.addTh (s : St C μ S) {x : Th} (h1 : μ x.sa = none) (h2 : μ x.ka = none) (h3 : x.ka ≠ x.sa) (hn : x.n ∉ S.ts.map Th.n) (oth : ∀ a, a ≠ S.t → a ≠ S.f → a ≠ S.l → a ≠ S.k → a ≠ x.sa → a ≠ x.ka → μ1 a = μ a)
    (e1 : μ1 S.t = some (.ins C (S.addTh x).flds)) (e2 : μ1 S.f = some (.dK (S.addTh x).df)) (e3 : μ1 S.l = some (.dK (S.addTh x).dl)) (e4 : μ1 S.k = some (.dK (S.addTh x).dk)) (e5 : μ1 x.sa = some (.dK (slK x.sl))) (e6 : μ1 x.ka = some (.lst (x.ke.map hoD))) : St C μ1 (S.addTh x) := by
  have f1 := s.sits.fresh h1
  have f2 := s.sits.fresh h2
  have nd : (foot (S.cells C)).Nodup := s.sits.nd
  have p : (foot ((S.addTh x).cells C)).Perm (x.sa :: x.ka :: foot (S.cells C)) := by
    rw [foot_eq, foot_eq]
    simp only [SC.addTh, List.map_append, List.map_cons, List.map_nil]
    refine List.perm_iff_count.mpr fun a => ?_
    simp only [List.count_cons, List.count_append, List.count_nil]
    omega
  have nd' : (foot ((S.addTh x).cells C)).Nodup := by
    rw [p.nodup_iff, List.nodup_cons, List.nodup_cons]
    refine ⟨fun m => ?_, f2, nd⟩
    rcases List.mem_cons.mp m with e | m
    · exact h3 e.symm
    · exact f1 m
  have old : ∀ {a : Addr}, a ∈ S.hs.map Hd.ra ++ (S.ts.map Th.sa ++ (S.ts.map Th.ka ++ S.xc.map (·.1))) → μ1 a = μ a := fun {a} m => by
    obtain ⟨t1, _, t3, t4, t5⟩ := s.head m
    exact oth a t1.symm t3.symm t4.symm t5.symm (fun e => f1 (e ▸ foot_of m)) fun e => f2 (e ▸ foot_of m)
  refine ⟨⟨fun q hq => ?_, nd'⟩, s.hn, ?_, s.mt⟩
  · simp only [SC.cells, List.mem_cons, List.mem_append, List.mem_map] at hq
    rcases hq with rfl | rfl | rfl | rfl | rfl | ⟨h, m, rfl⟩ | ⟨y, m, rfl⟩ | ⟨y, m, rfl⟩ | m
    · exact e1
    · have nd2 := nd
      rw [foot_eq] at nd2
      simp only [List.nodup_cons, List.mem_cons, not_or] at nd2
      show μ1 S.r = some (.dK S.dr)
      have ir : S.r ∈ foot (S.cells C) := by rw [foot_eq]; simp
      rw [oth S.r (fun e => nd2.1.1 e.symm) nd2.2.1.1 nd2.2.1.2.1 nd2.2.1.2.2.1 (fun e => f1 (e ▸ ir)) (fun e => f2 (e ▸ ir))]
      exact s.rows
    · exact e2
    · exact e3
    · exact e4
    · show μ1 h.ra = _
      rw [old (in_ra m)]
      exact s.row m
    · rcases List.mem_append.mp (show y ∈ S.ts ++ [x] from m) with m | m
      · show μ1 y.sa = _
        rw [old (in_sa m)]
        exact s.slots m
      · cases List.mem_singleton.mp m
        exact e5
    · rcases List.mem_append.mp (show y ∈ S.ts ++ [x] from m) with m | m
      · show μ1 y.ka = _
        rw [old (in_ka m)]
        exact s.holds m
      · cases List.mem_singleton.mp m
        exact e6
    · have m' : q ∈ S.xc := m
      rw [old (List.mem_append.mpr (.inr (List.mem_append.mpr (.inr (List.mem_append.mpr (.inr (List.mem_map.mpr ⟨q, m', rfl⟩)))))))]
      exact s.sits.at_ q (by
        simp only [SC.cells, List.mem_cons, List.mem_append]
        exact .inr (.inr (.inr (.inr (.inr (.inr (.inr (.inr m'))))))))
  · show ((S.ts ++ [x]).map Th.n).Nodup
    rw [List.map_append, List.nodup_append]
    refine ⟨s.tn, by simp, fun a ha b hb => ?_⟩
    cases List.mem_singleton.mp hb
    exact fun e => hn (e ▸ ha)
end
end Dl
namespace Dl
open PySem PySem.Spec PyProof.Rows L2
/-! ### names, whole numbers, counts -/
def letters : Str := "abcdefghijklmnopqrstuvwxyz"
def isLet (c : Nat) : Bool := decide (c ∈ letters.cps.toList)
def nameB (x : Str) : Bool := decide (1 ≤ x.length) && decide (x.length ≤ 8) && x.cps.toList.all isLet
theorem nameB_len {x : Str} (h : nameB x = true) : 1 ≤ x.length ∧ x.length ≤ 8 := by
  unfold nameB at h
  simp only [Bool.and_eq_true, decide_eq_true_eq] at h
  exact ⟨h.1.1, h.1.2⟩
theorem eqv_int (a b : Int) : PyData.eqv (.int a) (.int b) = decide (a = b) := by
  simp only [PyData.eqv]
  rw [Bool.beq_eq_decide_eq]
theorem depthAll_flat {α : Type} {f : α → PyData} (h : ∀ x, (f x).depth = 0) : ∀ l : List α, PyData.depthAll (l.map f) = 0
  | [] => rfl
  | x :: l => by simp [PyData.depthAll, h x, depthAll_flat h l]
end Dl
namespace Dl
open PySem PySem.Spec PyProof.Rows L2
/-! ### what deeds do to a store, told without the heap -/
def woLast (row : List Int) (n : Int) : List Int := row.eraseIdx (row.length - 1 - row.reverse.idxOf n)
def SC.addKe (S : SC) (n : Int) (h : List Int) : SC := S.modT n fun x => { x with ke := x.ke ++ [h] }
def SC.delKe (S : SC) (n : Int) (h : List Int) : SC := S.modT n fun x => { x with ke := x.ke.erase h }
def SC.addKes (S : SC) (ps : List (Int × List Int)) : SC := ps.foldl (fun S p => S.addKe p.1 p.2) S
def SC.delKes (S : SC) (ps : List (Int × List Int)) : SC := ps.foldl (fun S p => S.delKe p.1 p.2) S
def SC.setSl (S : SC) (o : Int) (f : List (Str × Rw) → List (Str × Rw)) : SC := S.modT o fun x => { x with sl := f x.sl }
def SC.setRow (S : SC) (nm : Str) (f : List Int → List Int) : SC := S.modH nm fun g => { g with row := f g.row }
def SC.have_ (S : SC) (nm : Str) (n : Int) : SC := (S.setRow nm (· ++ [n])).addKe n []
def SC.lose (S : SC) (nm : Str) (n : Int) : SC := (S.setRow nm fun r => woLast r n).delKe n []
def SC.clr (S : SC) (o : Int) (k : Str) (r : Rw) : SC := (S.setSl o fun sl => dropA sl k).delKes (r.holds o)
def SC.fill (S : SC) (o : Int) (k : Str) (r : Rw) : SC := (S.setSl o fun sl => putA sl k r).addKes (r.holds o)
section
variable {S : SC} {C : Addr}
theorem foot_modT {n : Int} {f : Th → Th} (h : ∀ x, (f x).sa = x.sa ∧ (f x).ka = x.ka) : foot ((S.modT n f).cells C) = foot (S.cells C) := by
  rw [foot_eq, foot_eq, modT_map (g := Th.sa) fun x => (h x).1, modT_map (g := Th.ka) fun x => (h x).2]
  rfl
theorem foot_modH {nm : Str} {f : Hd → Hd} (h : ∀ x, (f x).ra = x.ra) : foot ((S.modH nm f).cells C) = foot (S.cells C) := by
  rw [foot_eq, foot_eq, modH_map (g := Hd.ra) h]
  rfl
theorem foot_addKe {n : Int} {h : List Int} : foot ((S.addKe n h).cells C) = foot (S.cells C) := foot_modT fun _ => ⟨rfl, rfl⟩
theorem foot_setRow {nm : Str} {f : List Int → List Int} : foot ((S.setRow nm f).cells C) = foot (S.cells C) := foot_modH fun _ => rfl
end
theorem th_of {S : SC} {n : Int} (h : n ∈ S.ts.map Th.n) : ∃ x ∈ S.ts, x.n = n := List.mem_map.mp h
/-- what is at the number n behind a change at n -/
theorem modT_at {S : SC} {n : Int} {f : Th → Th} {x : Th} (m : x ∈ S.ts) (e : x.n = n) : f x ∈ (S.modT n f).ts := List.mem_map.mpr ⟨x, m, by rw [if_pos e]⟩
theorem modT_off {S : SC} {n : Int} {f : Th → Th} {x : Th} (m : x ∈ S.ts) (e : x.n ≠ n) : x ∈ (S.modT n f).ts := List.mem_map.mpr ⟨x, m, by rw [if_neg e]⟩
/-! ### sums -/
theorem sum_mod {α κ : Type} [DecidableEq κ] {key : α → κ} {f : α → Nat} {u : α → α} : ∀ {l : List α}, (l.map key).Nodup → ∀ {x : α}, x ∈ l → ((l.map fun y => if key y = key x then u y else y).map f).sum + f x = (l.map f).sum + f (u x)
  | [], _, _, h => by cases h
  | z :: l, nd, x, h => by
    rw [List.map_cons, List.nodup_cons] at nd
    rcases List.mem_cons.mp h with rfl | h
    · have e : (l.map fun y => if key y = key x then u y else y) = l := by
        have : l.map (fun y => if key y = key x then u y else y) = l.map id := List.map_congr_left fun y hy => by
          rw [if_neg]
          · rfl
          · exact fun e => nd.1 (e ▸ List.mem_map.mpr ⟨y, hy, rfl⟩)
        rw [this, List.map_id]
      simp only [List.map_cons, List.sum_cons, if_true, e]
      omega
    · have ne : key z ≠ key x := fun e => nd.1 (e ▸ List.mem_map.mpr ⟨x, h, rfl⟩)
      have ih := sum_mod (f := f) (u := u) nd.2 h
      simp only [List.map_cons, List.sum_cons, if_neg ne]
      omega
theorem sum_same {α : Type} {f : α → Nat} {p : α → Prop} [DecidablePred p] {u : α → α} (h : ∀ x, f (u x) = f x) (l : List α) : ((l.map fun y => if p y then u y else y).map f).sum = (l.map f).sum := by
  rw [List.map_map]
  congr 1
  refine List.map_congr_left fun x _ => ?_
  show f (if p x then u x else x) = f x
  split
  · exact h x
  · rfl
theorem mem_sum {α : Type} {f : α → Nat} : ∀ {l : List α} {x : α}, x ∈ l → f x ≤ (l.map f).sum
  | z :: l, x, h => by
    rw [List.map_cons, List.sum_cons]
    rcases List.mem_cons.mp h with rfl | h
    · omega
    · have := mem_sum (f := f) h
      omega
/-! ### the holds that there are -/
def slCnt (o : Int) (sl : List (Str × Rw)) (n : Int) (h : List Int) : Nat := (sl.map fun q => (q.2.holds o).count (n, h)).sum
def rowCnt (S : SC) (n : Int) (h : List Int) : Nat := if h = [] then (S.hs.map fun g => g.row.count n).sum else 0
def SC.cnt (S : SC) (n : Int) (h : List Int) : Nat := rowCnt S n h + (S.ts.map fun o => slCnt o.n o.sl n h).sum
structure OkS (S : SC) : Prop where
  many : ∀ x ∈ S.ts, 0 ≤ x.n ∧ x.n < S.many
  srt : (S.ts.map Th.n).Pairwise (· < ·)
  rows : ∀ h ∈ S.hs, ∀ x ∈ h.row, x ∈ S.ts.map Th.n
  refs : ∀ x ∈ S.ts, ∀ q ∈ x.sl, ∀ p ∈ q.2.holds x.n, p.1 ∈ S.ts.map Th.n
  sln : ∀ x ∈ S.ts, (x.sl.map (·.1)).Nodup
  kept : ∀ x ∈ S.ts, ∀ h, x.ke.count h = S.cnt x.n h
theorem cnt_setRow {S : SC} (hn : (S.hs.map Hd.nm).Nodup) {g : Hd} (m : g ∈ S.hs) (f : List Int → List Int) (n : Int) (h : List Int) :
    (S.setRow g.nm f).cnt n h + (if h = [] then g.row.count n else 0) = S.cnt n h + (if h = [] then (f g.row).count n else 0) := by
  unfold SC.cnt rowCnt
  have e1 : (S.setRow g.nm f).ts = S.ts := rfl
  rw [e1]
  by_cases c : h = []
  · simp only [if_pos c]
    have := sum_mod (f := fun g : Hd => g.row.count n) (u := fun g => { g with row := f g.row }) hn m
    have e2 : (S.setRow g.nm f).hs = S.hs.map fun y => if y.nm = g.nm then { y with row := f y.row } else y := rfl
    rw [e2]
    simp only at this
    omega
  · simp only [if_neg c]
theorem cnt_setSl {S : SC} (tn : (S.ts.map Th.n).Nodup) {x : Th} (m : x ∈ S.ts) (f : List (Str × Rw) → List (Str × Rw)) (n : Int) (h : List Int) :
    (S.setSl x.n f).cnt n h + slCnt x.n x.sl n h = S.cnt n h + slCnt x.n (f x.sl) n h := by
  unfold SC.cnt rowCnt
  have e1 : (S.setSl x.n f).hs = S.hs := rfl
  rw [e1]
  have := sum_mod (f := fun o : Th => slCnt o.n o.sl n h) (u := fun g => { g with sl := f g.sl }) tn m
  have e2 : (S.setSl x.n f).ts = S.ts.map fun y => if y.n = x.n then { y with sl := f y.sl } else y := rfl
  rw [e2]
  simp only at this
  omega
theorem cnt_modKe {S : SC} (k : Int) (f : List (List Int) → List (List Int)) (n : Int) (h : List Int) : (S.modT k fun x => { x with ke := f x.ke }).cnt n h = S.cnt n h := by
  unfold SC.cnt rowCnt
  have e1 : (S.modT k fun x => { x with ke := f x.ke }).hs = S.hs := rfl
  rw [e1]
  congr 1
  exact sum_same (f := fun o : Th => slCnt o.n o.sl n h) (p := fun y : Th => y.n = k) (u := fun x => { x with ke := f x.ke }) (fun _ => rfl) S.ts
theorem slCnt_put {o : Int} {sl : List (Str × Rw)} {k : Str} {r : Rw} (hk : k ∉ sl.map (·.1)) (n : Int) (h : List Int) : slCnt o (putA sl k r) n h = slCnt o sl n h + (r.holds o).count (n, h) := by
  unfold putA slCnt
  rw [if_neg hk]
  simp
theorem slCnt_drop {o : Int} {k : Str} {r : Rw} (n : Int) (h : List Int) : ∀ {sl : List (Str × Rw)}, (sl.map (·.1)).Nodup → getA sl k = some r → slCnt o (dropA sl k) n h + (r.holds o).count (n, h) = slCnt o sl n h
  | [], _, e => by cases e
  | q :: sl, nd, e => by
    rw [List.map_cons, List.nodup_cons] at nd
    unfold getA at e
    rw [List.find?_cons] at e
    by_cases c : q.1 = k
    · rw [decide_eq_true c] at e
      have e' : q.2 = r := by simpa using e
      have e3 : dropA (q :: sl) k = sl := by
        unfold dropA
        rw [List.filter_cons_of_neg (by simp [c])]
        refine List.filter_eq_self.mpr fun p hp => ?_
        refine decide_eq_true fun z => nd.1 ?_
        rw [c, ← z]
        exact List.mem_map.mpr ⟨p, hp, rfl⟩
      rw [e3, ← e']
      unfold slCnt
      rw [List.map_cons, List.sum_cons]
      omega
    · rw [decide_eq_false c] at e
      have ih := slCnt_drop (o := o) n h nd.2 (show getA sl k = some r from e)
      have e3 : dropA (q :: sl) k = q :: dropA sl k := by
        unfold dropA
        rw [List.filter_cons_of_pos (by simp [c])]
      rw [e3]
      unfold slCnt at ih ⊢
      rw [List.map_cons, List.sum_cons, List.map_cons, List.sum_cons]
      omega
theorem count_erase_add {l : List (List Int)} {a b : List Int} (h : a ∈ l) : (l.erase a).count b + (if b = a then 1 else 0) = l.count b := by
  rw [(List.perm_cons_erase h).count_eq b, List.count_cons]
  by_cases c : b = a
  · subst c; simp
  · have : ¬ a = b := fun e => c e.symm
    simp [c, this]
theorem woLast_count {row : List Int} {n : Int} (h : n ∈ row) (m : Int) : (woLast row n).count m + (if m = n then 1 else 0) = row.count m := by
  have h' : n ∈ row.reverse := List.mem_reverse.mpr h
  have hj : row.reverse.idxOf n < row.reverse.length := List.idxOf_lt_length_of_mem h'
  rw [List.length_reverse] at hj
  have hi : row.length - 1 - row.reverse.idxOf n < row.length := by omega
  have e : row[row.length - 1 - row.reverse.idxOf n]'hi = n := by
    have e1 : row.reverse[row.reverse.idxOf n]'(by rw [List.length_reverse]; exact hj) = n := List.getElem_idxOf ..
    rw [List.getElem_reverse] at e1
    exact e1
  have p := perm_erase hi
  rw [p.count_eq m, e, List.count_cons]
  unfold woLast
  by_cases c : m = n
  · subst c; simp
  · have : ¬ n = m := fun z => c z.symm
    simp [c, this]
theorem woLast_len {row : List Int} {n : Int} (h : n ∈ row) : (woLast row n).length + 1 = row.length := by
  have h' : n ∈ row.reverse := List.mem_reverse.mpr h
  have hj : row.reverse.idxOf n < row.reverse.length := List.idxOf_lt_length_of_mem h'
  rw [List.length_reverse] at hj
  unfold woLast
  rw [List.length_eraseIdx_of_lt (by omega)]
  omega
theorem woLast_sub {row : List Int} {n x : Int} (h : x ∈ woLast row n) : x ∈ row := (List.eraseIdx_subset h)
end Dl
namespace Dl
open PySem PySem.Spec PyProof.Rows L2
section
variable {S : SC}
theorem ns_modT {n : Int} {f : Th → Th} (h : ∀ x, (f x).n = x.n) : (S.modT n f).ts.map Th.n = S.ts.map Th.n := modT_map h
theorem ns_addKe {n : Int} {h : List Int} : (S.addKe n h).ts.map Th.n = S.ts.map Th.n := ns_modT fun _ => rfl
theorem ns_delKe {n : Int} {h : List Int} : (S.delKe n h).ts.map Th.n = S.ts.map Th.n := ns_modT fun _ => rfl
theorem ns_setSl {n : Int} {f : List (Str × Rw) → List (Str × Rw)} : (S.setSl n f).ts.map Th.n = S.ts.map Th.n := ns_modT fun _ => rfl
theorem nms_setRow {nm : Str} {f : List Int → List Int} : (S.setRow nm f).hs.map Hd.nm = S.hs.map Hd.nm := modH_map fun _ => rfl
/-- all of a store but which holds are kept -/
structure OkB (S : SC) : Prop where
  many : ∀ x ∈ S.ts, 0 ≤ x.n ∧ x.n < S.many
  srt : (S.ts.map Th.n).Pairwise (· < ·)
  rows : ∀ h ∈ S.hs, ∀ x ∈ h.row, x ∈ S.ts.map Th.n
  refs : ∀ x ∈ S.ts, ∀ q ∈ x.sl, ∀ p ∈ q.2.holds x.n, p.1 ∈ S.ts.map Th.n
  sln : ∀ x ∈ S.ts, (x.sl.map (·.1)).Nodup
theorem OkS.b (h : OkS S) : OkB S := ⟨h.many, h.srt, h.rows, h.refs, h.sln⟩
theorem OkB.ok (h : OkB S) (k : ∀ x ∈ S.ts, ∀ h, x.ke.count h = S.cnt x.n h) : OkS S := ⟨h.many, h.srt, h.rows, h.refs, h.sln, k⟩
theorem OkB.nd (h : OkB S) : (S.ts.map Th.n).Nodup := h.srt.imp fun a => Int.ne_of_lt a
theorem OkB.ke (h : OkB S) (n : Int) (f : List (List Int) → List (List Int)) : OkB (S.modT n fun x => { x with ke := f x.ke }) := by
  have e := ns_modT (S := S) (n := n) (f := fun x => { x with ke := f x.ke }) fun _ => rfl
  refine ⟨fun x m => ?_, by rw [e]; exact h.srt, fun g mg x hx => by rw [e]; exact h.rows g mg x hx, fun x m q hq p hp => ?_, fun x m => ?_⟩
  · obtain ⟨y, hy, rfl⟩ := mem_modT m
    have := h.many y hy
    split <;> exact this
  · obtain ⟨y, hy, rfl⟩ := mem_modT m
    rw [e]
    split at hq <;> rename_i c
    · rw [if_pos c] at hp
      exact h.refs y hy q hq p hp
    · rw [if_neg c] at hp
      exact h.refs y hy q hq p hp
  · obtain ⟨y, hy, rfl⟩ := mem_modT m
    have := h.sln y hy
    split <;> exact this
theorem OkB.row (h : OkB S) (nm : Str) (f : List Int → List Int) (hf : ∀ g ∈ S.hs, g.nm = nm → ∀ x ∈ f g.row, x ∈ S.ts.map Th.n) : OkB (S.setRow nm f) := by
  refine ⟨h.many, h.srt, fun g mg x hx => ?_, h.refs, h.sln⟩
  obtain ⟨g0, m0, rfl⟩ := mem_modH mg
  by_cases c : g0.nm = nm
  · rw [if_pos c] at hx
    exact hf g0 m0 c x hx
  · rw [if_neg c] at hx
    exact h.rows g0 m0 x hx
theorem OkB.sl (h : OkB S) (n : Int) (f : List (Str × Rw) → List (Str × Rw)) (h1 : ∀ x ∈ S.ts, x.n = n → ∀ q ∈ f x.sl, ∀ p ∈ q.2.holds x.n, p.1 ∈ S.ts.map Th.n) (h2 : ∀ x ∈ S.ts, x.n = n → ((f x.sl).map (·.1)).Nodup) : OkB (S.setSl n f) := by
  have e := ns_setSl (S := S) (n := n) (f := f)
  refine ⟨fun x m => ?_, by rw [e]; exact h.srt, fun g mg x hx => by rw [e]; exact h.rows g mg x hx, fun x m q hq p hp => ?_, fun x m => ?_⟩
  · obtain ⟨y, hy, rfl⟩ := mem_modT m
    have := h.many y hy
    split <;> exact this
  · obtain ⟨y, hy, rfl⟩ := mem_modT m
    rw [e]
    by_cases c : y.n = n
    · rw [if_pos c] at hq hp
      exact h1 y hy c q hq p hp
    · rw [if_neg c] at hq hp
      exact h.refs y hy q hq p hp
  · obtain ⟨y, hy, rfl⟩ := mem_modT m
    by_cases c : y.n = n
    · rw [if_pos c]
      exact h2 y hy c
    · rw [if_neg c]
      exact h.sln y hy
/-! which holds are kept: those counted, but for some -/
def KeptBut (S : SC) (d : Int → List Int → Int) : Prop := ∀ x ∈ S.ts, ∀ h, (x.ke.count h : Int) + d x.n h = S.cnt x.n h
theorem OkS.but (h : OkS S) : KeptBut S fun _ _ => 0 := fun x m g => by
  have := h.kept x m g
  show (x.ke.count g : Int) + 0 = _
  omega
def one (n : Int) (h : List Int) (m : Int) (g : List Int) : Int := if m = n ∧ g = h then 1 else 0
theorem KeptBut.add {d : Int → List Int → Int} (k : KeptBut S d) (n : Int) (h : List Int) : KeptBut (S.addKe n h) fun m g => d m g - one n h m g := fun x m g => by
  have ec := cnt_modKe (S := S) n (fun ke => ke ++ [h]) x.n g
  have ec' : (S.addKe n h).cnt x.n g = S.cnt x.n g := ec
  rw [ec']
  obtain ⟨y, hy, rfl⟩ := mem_modT m
  have := k y hy g
  unfold one
  by_cases c : y.n = n
  · rw [if_pos c]
    simp only [List.count_append, List.count_cons, List.count_nil]
    by_cases c2 : g = h
    · subst c2
      simp only [c, and_self, if_true, beq_self_eq_true]
      rw [c] at this
      omega
    · have c3 : (h == g) = false := by simpa using fun e => c2 e.symm
      simp only [c2, and_false, if_false, c3]
      simp
      omega
  · rw [if_neg c]
    simp only [c, false_and, if_false]
    omega
theorem KeptBut.del {d : Int → List Int → Int} (k : KeptBut S d) {n : Int} {h : List Int} (hm : ∀ x ∈ S.ts, x.n = n → h ∈ x.ke) : KeptBut (S.delKe n h) fun m g => d m g + one n h m g := fun x m g => by
  have ec := cnt_modKe (S := S) n (fun ke => ke.erase h) x.n g
  have ec' : (S.delKe n h).cnt x.n g = S.cnt x.n g := ec
  rw [ec']
  obtain ⟨y, hy, rfl⟩ := mem_modT m
  have := k y hy g
  unfold one
  by_cases c : y.n = n
  · rw [if_pos c]
    have e := count_erase_add (b := g) (hm y hy c)
    by_cases c2 : g = h
    · subst c2
      rw [if_pos rfl] at e
      dsimp only
      rw [if_pos ⟨c, rfl⟩]
      omega
    · rw [if_neg c2] at e
      dsimp only
      rw [if_neg fun z => c2 z.2]
      omega
  · rw [if_neg c]
    dsimp only
    rw [if_neg fun z => c z.1]
    omega
theorem KeptBut.row {d : Int → List Int → Int} (k : KeptBut S d) (hn : (S.hs.map Hd.nm).Nodup) {g : Hd} (m : g ∈ S.hs) (f : List Int → List Int) : KeptBut (S.setRow g.nm f) fun n h => d n h + if h = [] then ((f g.row).count n : Int) - g.row.count n else 0 := fun x mx h => by
  have := k x mx h
  have e := cnt_setRow hn m f x.n h
  by_cases c : h = []
  · simp only [if_pos c] at e ⊢
    omega
  · simp only [if_neg c] at e ⊢
    omega
theorem KeptBut.sl {d : Int → List Int → Int} (k : KeptBut S d) (tn : (S.ts.map Th.n).Nodup) {y : Th} (m : y ∈ S.ts) (f : List (Str × Rw) → List (Str × Rw)) : KeptBut (S.setSl y.n f) fun n h => d n h + slCnt y.n (f y.sl) n h - slCnt y.n y.sl n h := fun x mx h => by
  have e := cnt_setSl tn m f x.n h
  obtain ⟨z, hz, rfl⟩ := mem_modT mx
  have := k z hz h
  have e1 : (if z.n = y.n then { z with sl := f z.sl } else z).n = z.n := by split <;> rfl
  have e2 : (if z.n = y.n then { z with sl := f z.sl } else z).ke = z.ke := by split <;> rfl
  rw [e1] at e ⊢
  rw [e2]
  show ((z.ke.count h : Nat) : Int) + (d z.n h + slCnt y.n (f y.sl) z.n h - slCnt y.n y.sl z.n h) = _
  omega
theorem KeptBut.ok {d : Int → List Int → Int} (k : KeptBut S d) (h : ∀ x ∈ S.ts, ∀ g, d x.n g = 0) : ∀ x ∈ S.ts, ∀ g, x.ke.count g = S.cnt x.n g := fun x m g => by
  have := k x m g
  rw [h x m g] at this
  omega
/-! ### deeds keep what is right -/
theorem OkS.have_ (o : OkS S) (hn : (S.hs.map Hd.nm).Nodup) {g : Hd} (m : g ∈ S.hs) {n : Int} (hx : n ∈ S.ts.map Th.n) : OkS (S.have_ g.nm n) := by
  have b1 := o.b.row g.nm (· ++ [n]) fun g' m' _ x hx' => by
    rcases List.mem_append.mp hx' with h | h
    · exact o.rows g' m' x h
    · rw [List.mem_singleton.mp h]; exact hx
  refine (b1.ke n fun ke => ke ++ [[]]).ok (KeptBut.ok ((o.but.row hn m (· ++ [n])).add n []) fun x mx h => ?_)
  unfold one
  by_cases c : h = []
  · subst c
    simp only [if_true, and_true, List.count_append, List.count_cons, List.count_nil]
    by_cases c2 : x.n = n
    · simp [c2]
      omega
    · have c3 : (n == x.n) = false := by simpa using fun e => c2 e.symm
      simp [c2, c3]
  · simp [c]
theorem OkS.has_nil (o : OkS S) {g : Hd} (m : g ∈ S.hs) {n : Int} (hx : n ∈ g.row) : ∀ x ∈ S.ts, x.n = n → ([] : List Int) ∈ x.ke := fun x mx e => by
  have h1 := o.kept x mx []
  have h2 : g.row.count n ≤ (S.hs.map fun g => g.row.count n).sum := mem_sum (f := fun g : Hd => g.row.count n) m
  have h3 : 0 < g.row.count n := List.count_pos_iff.mpr hx
  have h4 : (S.hs.map fun g => g.row.count n).sum ≤ S.cnt x.n [] := by
    unfold SC.cnt rowCnt
    rw [e]
    simp
  exact List.count_pos_iff.mp (by omega)
theorem OkS.lose (o : OkS S) (hn : (S.hs.map Hd.nm).Nodup) {g : Hd} (m : g ∈ S.hs) {n : Int} (hx : n ∈ g.row) : OkS (S.lose g.nm n) := by
  have b1 := o.b.row g.nm (fun r => woLast r n) fun g' m' _ x hx' => o.rows g' m' x (woLast_sub hx')
  refine (b1.ke n fun ke => ke.erase []).ok (KeptBut.ok ((o.but.row hn m fun r => woLast r n).del (n := n) (h := []) fun x mx e => o.has_nil m hx x mx e) fun x mx h => ?_)
  unfold one
  by_cases c : h = []
  · subst c
    have e := woLast_count hx x.n
    by_cases c2 : x.n = n
    · simp only [if_pos c2] at e
      simp only [if_true, c2, and_self]
      rw [c2] at e
      omega
    · simp only [if_neg c2] at e
      simp only [if_true, c2, false_and, if_false]
      omega
  · simp [c]
theorem OkS.has_hold (o : OkS S) {y : Th} (m : y ∈ S.ts) {q : Str × Rw} (hq : q ∈ y.sl) {p : Int × List Int} (hp : p ∈ q.2.holds y.n) : ∀ x ∈ S.ts, x.n = p.1 → p.2 ∈ x.ke := fun x mx e => by
  have h1 := o.kept x mx p.2
  have h2 : 0 < (q.2.holds y.n).count (p.1, p.2) := List.count_pos_iff.mpr hp
  have h3 : (q.2.holds y.n).count (p.1, p.2) ≤ slCnt y.n y.sl p.1 p.2 := mem_sum (f := fun q : Str × Rw => (q.2.holds y.n).count (p.1, p.2)) hq
  have h4 : slCnt y.n y.sl p.1 p.2 ≤ (S.ts.map fun o => slCnt o.n o.sl p.1 p.2).sum := mem_sum (f := fun o : Th => slCnt o.n o.sl p.1 p.2) m
  have h5 : (S.ts.map fun o => slCnt o.n o.sl p.1 p.2).sum ≤ S.cnt x.n p.2 := by
    unfold SC.cnt
    rw [e]
    omega
  exact List.count_pos_iff.mp (by omega)
theorem holds_le {o : Int} {r : Rw} : r.holds o = [] ∨ ∃ p, r.holds o = [p] := by
  cases r with
  | plain x => exact .inr ⟨_, rfl⟩
  | weak x => exact .inl rfl
  | keyed k v => exact .inr ⟨_, rfl⟩
theorem count_one {p : Int × List Int} (n : Int) (h : List Int) : (([p].count (n, h) : Nat) : Int) = one p.1 p.2 n h := by
  unfold one
  rw [List.count_cons, List.count_nil]
  obtain ⟨a, b⟩ := p
  by_cases c : (a, b) = (n, h)
  · cases c; simp
  · have c1 : ((a, b) == (n, h)) = false := by simpa using c
    have c2 : ¬ (n = a ∧ h = b) := fun e => c (by rw [e.1, e.2])
    rw [c1, if_neg c2]
    rfl
theorem dropA_sub {sl : List (Str × Rw)} {k : Str} {q : Str × Rw} (h : q ∈ dropA sl k) : q ∈ sl := (List.mem_filter.mp h).1
theorem OkS.clr (o : OkS S) {y : Th} (m : y ∈ S.ts) {k : Str} {r : Rw} (hr : getA y.sl k = some r) : OkS (S.clr y.n k r) := by
  have tn := o.b.nd
  have hq := getA_some hr
  have b1 := o.b.sl y.n (fun sl => dropA sl k) (fun x mx _ q hq' => o.refs x mx q (dropA_sub hq')) fun x mx _ => List.Nodup.sublist (List.Sublist.map _ List.filter_sublist) (o.sln x mx)
  have k1 := o.but.sl tn m fun sl => dropA sl k
  have e0 := fun n h => slCnt_drop (o := y.n) n h (o.sln y m) hr
  unfold SC.clr
  rcases holds_le (o := y.n) (r := r) with e | ⟨p, e⟩
  · rw [e]
    refine b1.ok (k1.ok fun x mx h => ?_)
    have := e0 x.n h
    rw [e] at this
    simp at this
    omega
  · rw [e]
    have hk : ∀ x ∈ (S.setSl y.n fun sl => dropA sl k).ts, x.n = p.1 → p.2 ∈ x.ke := fun x mx ex => by
      obtain ⟨z, hz, rfl⟩ := mem_modT mx
      have e1 : (if z.n = y.n then { z with sl := dropA z.sl k } else z).n = z.n := by split <;> rfl
      have e2 : (if z.n = y.n then { z with sl := dropA z.sl k } else z).ke = z.ke := by split <;> rfl
      rw [e1] at ex
      rw [e2]
      exact o.has_hold m hq (p := p) (by rw [e]; exact List.mem_singleton_self _) z hz ex
    refine (b1.ke p.1 fun ke => ke.erase p.2).ok (KeptBut.ok (k1.del (n := p.1) (h := p.2) hk) fun x mx h => ?_)
    have h1 := e0 x.n h
    have h2 := count_one (p := p) x.n h
    rw [e] at h1
    omega
theorem OkS.fill (o : OkS S) {y : Th} (m : y ∈ S.ts) {k : Str} {r : Rw} (hk : k ∉ y.sl.map (·.1)) (hr : ∀ p ∈ r.holds y.n, p.1 ∈ S.ts.map Th.n) : OkS (S.fill y.n k r) := by
  have tn := o.b.nd
  have at_y : ∀ x ∈ S.ts, x.n = y.n → x = y := fun x mx e => nd_eq tn mx m e
  have ep : putA y.sl k r = y.sl ++ [(k, r)] := by unfold putA; rw [if_neg hk]
  have b1 := o.b.sl y.n (fun sl => putA sl k r) (fun x mx e q hq p hp => by
    cases at_y x mx e
    rw [ep] at hq
    rcases List.mem_append.mp hq with h | h
    · exact o.refs _ m q h p hp
    · rw [List.mem_singleton.mp h] at hp
      exact hr p hp) fun x mx e => by
    cases at_y x mx e
    rw [ep, List.map_append, List.nodup_append]
    refine ⟨o.sln _ m, by simp, fun a ha b hb => ?_⟩
    rw [List.mem_singleton.mp (show b ∈ [k] from hb)]
    exact fun e => hk (e ▸ ha)
  have k1 := o.but.sl tn m fun sl => putA sl k r
  have e0 := fun n h => slCnt_put (o := y.n) (r := r) hk n h
  unfold SC.fill
  rcases holds_le (o := y.n) (r := r) with e | ⟨p, e⟩
  · rw [e]
    refine b1.ok (k1.ok fun x mx h => ?_)
    have := e0 x.n h
    rw [e] at this
    simp at this
    omega
  · rw [e]
    refine (b1.ke p.1 fun ke => ke ++ [p.2]).ok (KeptBut.ok (k1.add p.1 p.2) fun x mx h => ?_)
    have h1 := e0 x.n h
    have h2 := count_one (p := p) x.n h
    rw [e] at h1
    omega
theorem sum_zero {α : Type} {f : α → Nat} : ∀ {l : List α}, (∀ x ∈ l, f x = 0) → (l.map f).sum = 0
  | [], _ => rfl
  | x :: l, h => by
    rw [List.map_cons, List.sum_cons, h x List.mem_cons_self, sum_zero fun y hy => h y (List.mem_cons_of_mem _ hy)]
theorem OkS.addTh (o : OkS S) {x : Th} (hx : x.n = S.many) (h0 : 0 ≤ S.many) (sl : x.sl = []) (ke : x.ke = []) : OkS (S.addTh x) := by
  have ens : (S.addTh x).ts.map Th.n = S.ts.map Th.n ++ [x.n] := by simp [SC.addTh]
  have low : ∀ y ∈ S.ts.map Th.n, y < S.many := fun y hy => by
    obtain ⟨z, hz, rfl⟩ := List.mem_map.mp hy
    exact (o.many z hz).2
  have cn : ∀ n h, (S.addTh x).cnt n h = S.cnt n h := fun n h => by
    unfold SC.cnt rowCnt SC.addTh
    simp [sl, slCnt]
  refine ⟨fun y hy => ?_, ?_, fun h mh y hy => ?_, fun y hy q hq p hp => ?_, fun y hy => ?_, fun y hy h => ?_⟩
  · show 0 ≤ y.n ∧ y.n < S.many + 1
    rcases List.mem_append.mp hy with h | h
    · have := o.many y h
      omega
    · cases List.mem_singleton.mp h
      omega
  · rw [ens, List.pairwise_append]
    refine ⟨o.srt, by simp, fun a ha b hb => ?_⟩
    rw [List.mem_singleton.mp hb, hx]
    exact low a ha
  · rw [ens]
    exact List.mem_append.mpr (.inl (o.rows h mh y hy))
  · rw [ens]
    rcases List.mem_append.mp hy with h | h
    · exact List.mem_append.mpr (.inl (o.refs y h q hq p hp))
    · cases List.mem_singleton.mp h
      rw [sl] at hq
      cases hq
  · rcases List.mem_append.mp hy with h | h
    · exact o.sln y h
    · cases List.mem_singleton.mp h
      rw [sl]
      exact List.nodup_nil
  · rw [cn]
    rcases List.mem_append.mp hy with hm | hm
    · exact o.kept y hm h
    · cases List.mem_singleton.mp hm
      rw [ke, List.count_nil]
      symm
      unfold SC.cnt rowCnt
      have z1 : ∀ g ∈ S.hs, g.row.count x.n = 0 := fun g mg => List.count_eq_zero.mpr fun m => by
        have := low _ (o.rows g mg _ m)
        omega
      have z2 : ∀ y ∈ S.ts, slCnt y.n y.sl x.n h = 0 := fun y my => by
        unfold slCnt
        have : ∀ q ∈ y.sl, (q.2.holds y.n).count (x.n, h) = 0 := fun q hq => List.count_eq_zero.mpr fun m => by
          have := low _ (o.refs y my q hq _ m)
          simp only at this
          omega
        exact sum_zero this
      have s1 : (S.hs.map fun g => g.row.count x.n).sum = 0 := sum_zero z1
      have s2 : (S.ts.map fun o => slCnt o.n o.sl x.n h).sum = 0 := sum_zero z2
      rw [s1, s2]
      split <;> rfl
end
end Dl
namespace Dl
open PySem PySem.Spec PyProof.Rows L2
/-! ### holds as data -/
def hoP (h : List Int) : PyData := .tuple (h.map .int)
theorem rs_ho {μ : Mu} (h : List Int) : Rs μ (hoD h) (hoP h) := .tup (Rss.map fun x _ => .int x)
theorem eqvAll_ints : ∀ a b : List Int, PyData.eqvAll (a.map .int) (b.map .int) = decide (a = b)
  | [], [] => by simp [PyData.eqvAll]
  | [], y :: b => by simp [PyData.eqvAll]
  | x :: a, [] => by simp [PyData.eqvAll]
  | x :: a, y :: b => by
    rw [List.map_cons, List.map_cons]
    simp only [PyData.eqvAll]
    rw [eqvAll_ints a b, eqv_int]
    by_cases h1 : x = y <;> by_cases h2 : a = b <;> simp [h1, h2]
theorem eqv_ho (a b : List Int) : PyData.eqv (hoP a) (hoP b) = decide (a = b) := by
  unfold hoP
  simp only [PyData.eqv]
  exact eqvAll_ints a b
theorem lay_ints : ∀ l : List Int, PyData.canLayAll0 (l.map .int) = true
  | [] => by simp [PyData.canLayAll0]
  | x :: l => by
    rw [List.map_cons]
    simp only [PyData.canLayAll0, PyData.canLay0, lay_ints l, Bool.and_self]
theorem depth_ho (h : List Int) : (hoP h).depth = 1 := by
  unfold hoP
  simp only [PyData.depth]
  rw [depthAll_flat fun _ => rfl]
theorem shaped_ho (h : List Int) : SeqAt.shaped (hoP h) = true := by
  unfold SeqAt.shaped
  rw [depth_ho]
  unfold hoP
  simp only [PyData.canLay0, lay_ints, Bool.true_and]
  decide
theorem lay_hos : ∀ l : List (List Int), PyData.canLayAll0 (l.map hoP) = true
  | [] => by simp [PyData.canLayAll0]
  | x :: l => by
    have : (hoP x).canLay0 = true := by unfold hoP; simp only [PyData.canLay0, lay_ints]
    rw [List.map_cons]
    simp only [PyData.canLayAll0, this, lay_hos l, Bool.and_self]
theorem depthAll_hos : ∀ l : List (List Int), PyData.depthAll (l.map hoP) ≤ 1
  | [] => by simp [PyData.depthAll]
  | x :: l => by
    have := depthAll_hos l
    rw [List.map_cons]
    simp only [PyData.depthAll, depth_ho]
    omega
theorem shaped_hos (l : List (List Int)) : SeqAt.shaped (.list (l.map hoP)) = true := by
  unfold SeqAt.shaped
  have := depthAll_hos l
  simp only [PyData.canLay0, lay_hos, Bool.true_and, PyData.depth]
  exact decide_eq_true (by omega)
theorem rd_removeH {μ : Mu} {l : Addr} {ke : List (List Int)} {h : List Int} {Q : DQ} (hl : μ l = some (.lst (ke.map hoD))) (hm : h ∈ ke) (q : Q .non (put μ l (.lst ((ke.erase h).map hoD)))) : fRemove (.at l) [hoD h] μ Q := by
  have hj := List.idxOf_lt_length_of_mem hm
  have e := List.getElem_idxOf hj
  refine ⟨l, ke.map hoD, ke.map hoP, hoD h, hoP h, ke.idxOf h, hoP h, rfl, rfl, hl, Rss.map fun x _ => rs_ho x, rs_ho h, shaped_hos ke, shaped_ho h, ?_, by rw [eqv_ho]; simp, fun m z hmj hz => ?_, ?_⟩
  · rw [List.getElem?_map, List.getElem?_eq_getElem hj, e]
    rfl
  · rw [List.getElem?_map] at hz
    cases ez : ke[m]? with
    | none => rw [ez] at hz; cases hz
    | some w =>
      rw [ez] at hz
      cases hz
      rw [eqv_ho]
      refine decide_eq_false fun ew => ?_
      have := List.not_of_lt_findIdx (p := (· == h)) (xs := ke) (i := m) hmj
      have e2 := (List.getElem?_eq_some_iff.mp ez).2
      exact (beq_eq_false_iff_ne.mp this) (e2.trans ew)
  · rw [map_erase, ← List.erase_eq_eraseIdx_of_idxOf rfl]
    exact q
/-! ### a store's cells behind a step -/
end Dl
namespace Dl
open PySem PySem.Spec PyProof.Rows L2
/-- a store as deeds leave it: B bounds how many holds are kept of one thing -/
structure OkN (S : SC) (B : Nat) : Prop where
  ok : OkS S
  hn : (S.hs.map Hd.nm).Nodup
  kl : ∀ x ∈ S.ts, x.ke.length ≤ B
  rl : ∀ g ∈ S.hs, g.row.length ≤ 30
  sl : ∀ x ∈ S.ts, x.sl.length ≤ 8
  tl : S.ts.length ≤ 40
  hl : S.hs.length ≤ 6
  nm : ∀ g ∈ S.hs, nameB g.nm = true
  m0 : 0 ≤ S.many
  m1 : S.many ≤ 100000
def SC.slOf (S : SC) (o : Int) : List (Str × Rw) := match S.ts.find? fun x => decide (x.n = o) with
  | some x => x.sl
  | none => []
def SC.put_ (S : SC) (o : Int) (k : Str) (r : Rw) : SC := (match getA (S.slOf o) k with | some r0 => S.clr o k r0 | none => S).fill o k r
section
variable {S : SC} {B : Nat}
theorem OkN.tn (o : OkN S B) : (S.ts.map Th.n).Nodup := o.ok.b.nd
theorem OkN.n0 (o : OkN S B) : ∀ x ∈ S.ts, 0 ≤ x.n := fun x m => (o.ok.many x m).1
theorem slOf_at (tn : (S.ts.map Th.n).Nodup) {y : Th} (m : y ∈ S.ts) : S.slOf y.n = y.sl := by
  unfold SC.slOf
  cases e : S.ts.find? fun x => decide (x.n = y.n) with
  | none =>
    have := List.find?_eq_none.mp e y m
    simp at this
  | some x =>
    have h1 := List.mem_of_find?_eq_some e
    have h2 := List.find?_some e
    have h3 : x.n = y.n := by simpa using h2
    rw [nd_eq tn h1 m h3]
theorem len_modT {n : Int} {f : Th → Th} : (S.modT n f).ts.length = S.ts.length := by unfold SC.modT; rw [List.length_map]
theorem kl_modT {n : Int} {f : Th → Th} {B' : Nat} (k : ∀ x ∈ S.ts, x.ke.length ≤ B) (hB : B ≤ B') (h : ∀ x ∈ S.ts, (f x).ke.length ≤ B') : ∀ x ∈ (S.modT n f).ts, x.ke.length ≤ B' := fun x m => by
  obtain ⟨y, hy, rfl⟩ := mem_modT m
  split
  · exact h y hy
  · exact Nat.le_trans (k y hy) hB
theorem sl_modT {n : Int} {f : Th → Th} (k : ∀ x ∈ S.ts, x.sl.length ≤ 8) (h : ∀ x ∈ S.ts, x.n = n → (f x).sl.length ≤ 8) : ∀ x ∈ (S.modT n f).ts, x.sl.length ≤ 8 := fun x m => by
  obtain ⟨y, hy, rfl⟩ := mem_modT m
  split
  · exact h y hy (by assumption)
  · exact k y hy
theorem OkN.have_ (o : OkN S B) {g : Hd} (m : g ∈ S.hs) {n : Int} (hx : n ∈ S.ts.map Th.n) (hl : g.row.length < 30) : OkN (S.have_ g.nm n) (B + 1) where
  ok := o.ok.have_ o.hn m hx
  hn := (nms_setRow (S := S) (nm := g.nm) (f := (· ++ [n]))).symm ▸ o.hn
  kl := kl_modT (S := S.setRow g.nm (· ++ [n])) o.kl (Nat.le_succ B) fun x mx => by
    have := o.kl x mx
    simp
    exact this
  rl := fun h mh => by
    obtain ⟨y, hy, rfl⟩ := mem_modH (show h ∈ (S.modH g.nm fun g => { g with row := g.row ++ [n] }).hs from mh)
    by_cases c : y.nm = g.nm
    · rw [if_pos c, nd_eq o.hn hy m c]
      simp
      omega
    · rw [if_neg c]
      exact o.rl y hy
  sl := sl_modT (S := S.setRow g.nm (· ++ [n])) o.sl fun x mx _ => o.sl x mx
  tl := by
    have e : (S.have_ g.nm n).ts.length = S.ts.length := len_modT
    rw [e]
    exact o.tl
  hl := by
    have e : (S.have_ g.nm n).hs.length = S.hs.length := by show (S.modH g.nm _).hs.length = _; unfold SC.modH; rw [List.length_map]
    rw [e]
    exact o.hl
  nm := fun h mh => by
    obtain ⟨y, hy, rfl⟩ := mem_modH (show h ∈ (S.modH g.nm fun g => { g with row := g.row ++ [n] }).hs from mh)
    split <;> exact o.nm y hy
  m0 := o.m0
  m1 := o.m1
theorem OkN.lose (o : OkN S B) {g : Hd} (m : g ∈ S.hs) {n : Int} (hx : n ∈ g.row) : OkN (S.lose g.nm n) B where
  ok := o.ok.lose o.hn m hx
  hn := (nms_setRow (S := S) (nm := g.nm) (f := fun r => woLast r n)).symm ▸ o.hn
  kl := kl_modT (S := S.setRow g.nm fun r => woLast r n) o.kl (Nat.le_refl B) fun x mx => Nat.le_trans (List.length_erase_le) (o.kl x mx)
  rl := fun h mh => by
    obtain ⟨y, hy, rfl⟩ := mem_modH (show h ∈ (S.modH g.nm fun g => { g with row := woLast g.row n }).hs from mh)
    by_cases c : y.nm = g.nm
    · rw [if_pos c, nd_eq o.hn hy m c]
      have := woLast_len hx
      have := o.rl g m
      show (woLast g.row n).length ≤ 30
      omega
    · rw [if_neg c]
      exact o.rl y hy
  sl := sl_modT (S := S.setRow g.nm fun r => woLast r n) o.sl fun x mx _ => o.sl x mx
  tl := by
    have e : (S.lose g.nm n).ts.length = S.ts.length := len_modT
    rw [e]
    exact o.tl
  hl := by
    have e : (S.lose g.nm n).hs.length = S.hs.length := by show (S.modH g.nm _).hs.length = _; unfold SC.modH; rw [List.length_map]
    rw [e]
    exact o.hl
  nm := fun h mh => by
    obtain ⟨y, hy, rfl⟩ := mem_modH (show h ∈ (S.modH g.nm fun g => { g with row := woLast g.row n }).hs from mh)
    split <;> exact o.nm y hy
  m0 := o.m0
  m1 := o.m1
theorem dropA_len {sl : List (Str × Rw)} {k : Str} : (dropA sl k).length ≤ sl.length := List.length_filter_le _ _
theorem hs_clr {o : Int} {k : Str} {r : Rw} : (S.clr o k r).hs = S.hs := by
  unfold SC.clr
  rcases holds_le (o := o) (r := r) with e | ⟨p, e⟩ <;> rw [e] <;> rfl
theorem many_clr {o : Int} {k : Str} {r : Rw} : (S.clr o k r).many = S.many := by
  unfold SC.clr
  rcases holds_le (o := o) (r := r) with e | ⟨p, e⟩ <;> rw [e] <;> rfl
theorem hs_fill {o : Int} {k : Str} {r : Rw} : (S.fill o k r).hs = S.hs := by
  unfold SC.fill
  rcases holds_le (o := o) (r := r) with e | ⟨p, e⟩ <;> rw [e] <;> rfl
theorem many_fill {o : Int} {k : Str} {r : Rw} : (S.fill o k r).many = S.many := by
  unfold SC.fill
  rcases holds_le (o := o) (r := r) with e | ⟨p, e⟩ <;> rw [e] <;> rfl
theorem OkN.clr (o : OkN S B) {y : Th} (m : y ∈ S.ts) {k : Str} {r : Rw} (hr : getA y.sl k = some r) : OkN (S.clr y.n k r) B where
  ok := o.ok.clr m hr
  hn := by rw [hs_clr]; exact o.hn
  kl := by
    have k1 := kl_modT (S := S) (n := y.n) (f := fun x => { x with sl := dropA x.sl k }) o.kl (Nat.le_refl B) fun x mx => o.kl x mx
    unfold SC.clr
    rcases holds_le (o := y.n) (r := r) with e | ⟨p, e⟩
    · rw [e]
      exact k1
    · rw [e]
      exact kl_modT k1 (Nat.le_refl B) fun x mx => Nat.le_trans (List.length_erase_le) (k1 x mx)
  rl := by rw [hs_clr]; exact o.rl
  sl := by
    have k1 := sl_modT (S := S) (n := y.n) (f := fun x => { x with sl := dropA x.sl k }) o.sl fun x mx _ => Nat.le_trans dropA_len (o.sl x mx)
    unfold SC.clr
    rcases holds_le (o := y.n) (r := r) with e | ⟨p, e⟩
    · rw [e]
      exact k1
    · rw [e]
      exact sl_modT k1 fun x mx _ => k1 x mx
  tl := by
    unfold SC.clr
    rcases holds_le (o := y.n) (r := r) with e | ⟨p, e⟩
    · rw [e]
      show (S.modT _ _).ts.length ≤ 40
      rw [len_modT]
      exact o.tl
    · rw [e]
      show ((S.modT _ _).modT _ _).ts.length ≤ 40
      rw [len_modT, len_modT]
      exact o.tl
  hl := by rw [hs_clr]; exact o.hl
  nm := by rw [hs_clr]; exact o.nm
  m0 := by rw [many_clr]; exact o.m0
  m1 := by rw [many_clr]; exact o.m1
theorem OkN.fill (o : OkN S B) {y : Th} (m : y ∈ S.ts) {k : Str} {r : Rw} (hk : k ∉ y.sl.map (·.1)) (hr : ∀ p ∈ r.holds y.n, p.1 ∈ S.ts.map Th.n) (h8 : y.sl.length < 8) : OkN (S.fill y.n k r) (B + 1) where
  ok := o.ok.fill m hk hr
  hn := by rw [hs_fill]; exact o.hn
  kl := by
    have k1 := kl_modT (S := S) (n := y.n) (f := fun x : Th => { x with sl := putA x.sl k r }) o.kl (Nat.le_refl B) fun x mx => o.kl x mx
    unfold SC.fill
    rcases holds_le (o := y.n) (r := r) with e | ⟨p, e⟩
    · rw [e]
      exact fun x mx => Nat.le_succ_of_le (k1 x mx)
    · rw [e]
      refine kl_modT k1 (Nat.le_succ B) fun x mx => ?_
      have := k1 x mx
      simp
      exact this
  rl := by rw [hs_fill]; exact o.rl
  sl := by
    have k1 := sl_modT (S := S) (n := y.n) (f := fun x : Th => { x with sl := putA x.sl k r }) o.sl fun x mx e => by
      cases nd_eq o.tn mx m e
      show (putA y.sl k r).length ≤ 8
      unfold putA
      rw [if_neg hk]
      simp
      omega
    unfold SC.fill
    rcases holds_le (o := y.n) (r := r) with e | ⟨p, e⟩
    · rw [e]
      exact k1
    · rw [e]
      exact sl_modT k1 fun x mx _ => k1 x mx
  tl := by
    unfold SC.fill
    rcases holds_le (o := y.n) (r := r) with e | ⟨p, e⟩
    · rw [e]
      show (S.modT _ _).ts.length ≤ 40
      rw [len_modT]
      exact o.tl
    · rw [e]
      show ((S.modT _ _).modT _ _).ts.length ≤ 40
      rw [len_modT, len_modT]
      exact o.tl
  hl := by rw [hs_fill]; exact o.hl
  nm := by rw [hs_fill]; exact o.nm
  m0 := by rw [many_fill]; exact o.m0
  m1 := by rw [many_fill]; exact o.m1
/-- the owner behind a slot was emptied -/
theorem clr_at {y : Th} (m : y ∈ S.ts) {k : Str} {r : Rw} : ∃ y' ∈ (S.clr y.n k r).ts, y'.n = y.n ∧ y'.sl = dropA y.sl k ∧ y'.sa = y.sa := by
  unfold SC.clr
  have m1 := modT_at (f := fun x => { x with sl := dropA x.sl k }) m rfl
  rcases holds_le (o := y.n) (r := r) with e | ⟨p, e⟩
  · rw [e]
    exact ⟨_, m1, rfl, rfl, rfl⟩
  · rw [e]
    by_cases c : y.n = p.1
    · exact ⟨_, modT_at (f := fun x => { x with ke := x.ke.erase p.2 }) m1 c, rfl, rfl, rfl⟩
    · exact ⟨_, modT_off m1 c, rfl, rfl, rfl⟩
theorem ns_clr {o : Int} {k : Str} {r : Rw} : (S.clr o k r).ts.map Th.n = S.ts.map Th.n := by
  unfold SC.clr
  rcases holds_le (o := o) (r := r) with e | ⟨p, e⟩
  · rw [e]
    exact ns_setSl
  · rw [e]
    exact ns_delKe.trans ns_setSl
theorem ns_fill {o : Int} {k : Str} {r : Rw} : (S.fill o k r).ts.map Th.n = S.ts.map Th.n := by
  unfold SC.fill
  rcases holds_le (o := o) (r := r) with e | ⟨p, e⟩
  · rw [e]
    exact ns_setSl (S := S) (f := fun sl => putA sl k r)
  · rw [e]
    exact ns_addKe.trans ns_setSl
theorem dropA_no {sl : List (Str × Rw)} {k : Str} : k ∉ (dropA sl k).map (·.1) := fun h => by
  obtain ⟨q, hq, e⟩ := List.mem_map.mp h
  have := (List.mem_filter.mp hq).2
  simp at this
  exact this e
theorem dropA_lt {sl : List (Str × Rw)} {k : Str} {r : Rw} (h : getA sl k = some r) : (dropA sl k).length < sl.length := by
  have hq := getA_some h
  unfold dropA
  refine Nat.lt_of_le_of_ne (List.length_filter_le _ _) fun e => ?_
  have := List.length_filter_eq_length_iff.mp e (k, r) hq
  simp at this
theorem OkN.put_ (o : OkN S B) {y : Th} (m : y ∈ S.ts) {k : Str} {r : Rw} (hr : ∀ p ∈ r.holds y.n, p.1 ∈ S.ts.map Th.n) (h8 : getA y.sl k = none → y.sl.length < 8) : OkN (S.put_ y.n k r) (B + 1) := by
  unfold SC.put_
  rw [slOf_at o.tn m]
  cases e : getA y.sl k with
  | none =>
    have hk : k ∉ y.sl.map (·.1) := fun h => by
      have := getA_is (sl := y.sl) (k := k)
      rw [e, decide_eq_true h] at this
      cases this
    exact o.fill m hk hr (h8 e)
  | some r0 =>
    obtain ⟨y', m', e1, e2, _⟩ := clr_at (S := S) m (k := k) (r := r0)
    have o1 := o.clr m e
    have := dropA_lt e
    have := o.sl y m
    have h := OkN.fill o1 m' (k := k) (r := r) (by rw [e2]; exact dropA_no) (by rw [e1, ns_clr]; exact hr) (by rw [e2]; omega)
    rw [e1] at h
    exact h
theorem OkN.addTh (o : OkN S B) {x : Th} (hx : x.n = S.many) (sl : x.sl = []) (ke : x.ke = []) (h40 : S.ts.length < 40) (hm : S.many < 100000) : OkN (S.addTh x) B where
  ok := o.ok.addTh hx o.m0 sl ke
  hn := o.hn
  kl := fun y hy => by
    rcases List.mem_append.mp hy with h | h
    · exact o.kl y h
    · cases List.mem_singleton.mp h
      rw [ke]
      exact Nat.zero_le _
  rl := o.rl
  sl := fun y hy => by
    rcases List.mem_append.mp hy with h | h
    · exact o.sl y h
    · cases List.mem_singleton.mp h
      rw [sl]
      exact Nat.zero_le _
  tl := by
    show (S.ts ++ [x]).length ≤ 40
    simp
    omega
  hl := o.hl
  nm := o.nm
  m0 := by
    have := o.m0
    show 0 ≤ S.many + 1
    omega
  m1 := by
    show S.many + 1 ≤ 100000
    omega
end
end Dl
namespace Dl
open PySem PySem.Spec PyProof.Rows L2
def Rw.val : Rw → Int
  | .plain x => x
  | .weak x => x
  | .keyed _ v => v
def Rw.key : Rw → Option Int
  | .keyed k _ => some k
  | _ => none
def SC.clrO (S : SC) (o : Int) (k : Str) : SC := match getA (S.slOf o) k with
  | some r => S.clr o k r
  | none => S
section
variable {S : SC} {B : Nat} {C : Addr}
theorem OkN.clrO (o : OkN S B) {y : Th} (m : y ∈ S.ts) (k : Str) : OkN (S.clrO y.n k) B := by
  unfold SC.clrO
  rw [slOf_at o.tn m]
  cases e : getA y.sl k with
  | none => exact o
  | some r => exact o.clr m e
theorem ns_clrO {o : Int} {k : Str} : (S.clrO o k).ts.map Th.n = S.ts.map Th.n := by
  unfold SC.clrO
  cases getA (S.slOf o) k with
  | none => rfl
  | some r => exact ns_clr
theorem t_clr {o : Int} {k : Str} {r : Rw} : (S.clr o k r).t = S.t ∧ (S.clr o k r).r = S.r ∧ (S.clr o k r).f = S.f ∧ (S.clr o k r).flds = S.flds := by
  unfold SC.clr
  rcases holds_le (o := o) (r := r) with e | ⟨p, e⟩ <;> rw [e] <;> exact ⟨rfl, rfl, rfl, rfl⟩
theorem hs_clrO {o : Int} {k : Str} : (S.clrO o k).hs = S.hs := by
  unfold SC.clrO
  cases getA (S.slOf o) k with
  | none => rfl
  | some r => exact hs_clr
theorem hs_put {o : Int} {k : Str} {r : Rw} : (S.put_ o k r).hs = S.hs := by
  unfold SC.put_
  cases getA (S.slOf o) k with
  | none => exact hs_fill
  | some r0 => exact hs_fill.trans hs_clr
theorem ns_put {o : Int} {k : Str} {r : Rw} : (S.put_ o k r).ts.map Th.n = S.ts.map Th.n := by
  unfold SC.put_
  cases getA (S.slOf o) k with
  | none => exact ns_fill
  | some r0 => exact ns_fill.trans ns_clr
theorem many_put {o : Int} {k : Str} {r : Rw} : (S.put_ o k r).many = S.many := by
  unfold SC.put_
  cases getA (S.slOf o) k with
  | none => exact many_fill
  | some r0 => exact many_fill.trans many_clr
/-- words, and the things' numbers -/
def SC.wds (S : SC) : List (Int × Str) := S.ts.map fun x => (x.n, x.w)
theorem wds_modT {n : Int} {f : Th → Th} (h : ∀ x, (f x).n = x.n ∧ (f x).w = x.w) : (S.modT n f).wds = S.wds := modT_map (g := fun x : Th => (x.n, x.w)) fun x => by rw [(h x).1, (h x).2]
theorem wds_setSl {n : Int} {f : List (Str × Rw) → List (Str × Rw)} : (S.setSl n f).wds = S.wds := wds_modT fun _ => ⟨rfl, rfl⟩
theorem wds_addKe {n : Int} {h : List Int} : (S.addKe n h).wds = S.wds := wds_modT fun _ => ⟨rfl, rfl⟩
theorem wds_delKe {n : Int} {h : List Int} : (S.delKe n h).wds = S.wds := wds_modT fun _ => ⟨rfl, rfl⟩
theorem wds_fill {o : Int} {k : Str} {r : Rw} : (S.fill o k r).wds = S.wds := by
  unfold SC.fill
  rcases holds_le (o := o) (r := r) with e | ⟨p, e⟩
  · rw [e]
    exact wds_setSl (S := S) (f := fun sl => putA sl k r)
  · rw [e]
    exact (wds_addKe (S := S.setSl o fun sl => putA sl k r)).trans wds_setSl
theorem wds_clr {o : Int} {k : Str} {r : Rw} : (S.clr o k r).wds = S.wds := by
  unfold SC.clr
  rcases holds_le (o := o) (r := r) with e | ⟨p, e⟩
  · rw [e]
    exact wds_setSl (S := S) (f := fun sl => dropA sl k)
  · rw [e]
    exact (wds_delKe (S := S.setSl o fun sl => dropA sl k)).trans wds_setSl
theorem wds_put {o : Int} {k : Str} {r : Rw} : (S.put_ o k r).wds = S.wds := by
  unfold SC.put_
  cases getA (S.slOf o) k with
  | none => exact wds_fill
  | some r0 => exact wds_fill.trans wds_clr
theorem wds_have {nm : Str} {n : Int} : (S.have_ nm n).wds = S.wds := wds_modT fun _ => ⟨rfl, rfl⟩
theorem wds_lose {nm : Str} {n : Int} : (S.lose nm n).wds = S.wds := wds_modT fun _ => ⟨rfl, rfl⟩
theorem foot_have {nm : Str} {n : Int} : foot ((S.have_ nm n).cells C) = foot (S.cells C) := foot_addKe.trans foot_setRow
/-- the rows told by name -/
def SC.rws (S : SC) : List (Str × List Int) := S.hs.map fun g => (g.nm, g.row)
end
end Dl
namespace Dl
open PySem PySem.Spec PyProof.Rows L2
end Dl
namespace Dl
open PySem PySem.Spec PyProof.Rows L2
section
variable {C : Addr} {μ : Mu}
theorem Ls.mono {μ μ' : Mu} {d : D} {ds : List D} (h : Ls μ d ds) (g : ∀ a o, μ a = some o → μ' a = some o) : Ls μ' d ds := by
  unfold Ls at h ⊢
  split at h
  · exact h
  · exact g _ _ h
  · exact h
/-- a dict of fresh lists, one for each name, while it grows -/
structure Rowing (μ μ' : Mu) (L : Addr) (hs : List Hd) (xs : List Str) : Prop where
  nm : hs.map Hd.nm = xs
  row : ∀ g ∈ hs, g.row = []
  nd : (hs.map Hd.ra).Nodup
  new : ∀ g ∈ hs, μ g.ra = none ∧ g.ra ≠ L
  at_ : ∀ g ∈ hs, μ' g.ra = some (.lst [])
  dic : μ' L = some (.dK (hs.map fun h => (.inr h.nm, .at h.ra)))
  oth : ∀ a, a ≠ L → a ∉ hs.map Hd.ra → μ' a = μ a
theorem Rowing.zero {μ : Mu} {L : Addr} : Rowing μ (put μ L (.dK [])) L [] [] := ⟨rfl, (fun _ h => by cases h), List.nodup_nil, (fun _ h => by cases h), (fun _ h => by cases h), put_same, fun a h _ => put_ne h⟩
theorem Rowing.step {μ μ' : Mu} {L : Addr} {hs : List Hd} {xs : List Str} (w : Rowing μ μ' L hs xs) {x : Str} (hx : x ∉ xs) {p : Addr} (hp : μ' p = none) :
    (.inr x : Key) ∉ (hs.map fun h => (Sum.inr h.nm : Key)) ∧ Rowing μ (put (put μ' p (.lst [])) L (.dK (putD (hs.map fun h => (.inr h.nm, .at h.ra)) (.inr x) (.at p)))) L (hs ++ [⟨x, p, []⟩]) (xs ++ [x]) := by
  have no : (.inr x : Key) ∉ (hs.map fun h => (Sum.inr h.nm : Key)) := fun m => by
    rw [mem_inr, w.nm] at m
    exact hx m
  have pL : p ≠ L := fun e => by
    rw [e, w.dic] at hp
    cases hp
  have pn : p ∉ hs.map Hd.ra := fun m => by
    obtain ⟨g, mg, e⟩ := List.mem_map.mp m
    rw [← e, w.at_ g mg] at hp
    cases hp
  have pm : μ p = none := by rw [← w.oth p pL pn]; exact hp
  refine ⟨no, ?_, ?_, ?_, ?_, ?_, ?_, ?_⟩
  · rw [List.map_append, w.nm]
    rfl
  · intro g mg
    rcases List.mem_append.mp mg with m | m
    · exact w.row g m
    · cases List.mem_singleton.mp m
      rfl
  · rw [List.map_append, List.nodup_append]
    refine ⟨w.nd, by simp, fun a ha b hb => ?_⟩
    cases List.mem_singleton.mp hb
    exact fun e => pn ((show a = p from e) ▸ ha)
  · intro g mg
    rcases List.mem_append.mp mg with m | m
    · exact w.new g m
    · cases List.mem_singleton.mp m
      exact ⟨pm, pL⟩
  · intro g mg
    rcases List.mem_append.mp mg with m | m
    · rw [put_ne (w.new g m).2, put_ne fun (e : g.ra = p) => pn (e ▸ List.mem_map.mpr ⟨g, m, rfl⟩)]
      exact w.at_ g m
    · cases List.mem_singleton.mp m
      rw [put_ne pL, put_same]
  · rw [put_same, put_new no, List.map_append]
    rfl
  · intro a h1 h2
    rw [List.map_append, List.mem_append, not_or] at h2
    rw [put_ne h1, put_ne fun (e : a = p) => h2.2 (List.mem_singleton.mpr e)]
    exact w.oth a h1 h2.1
theorem Rowing.keep {μ μ' : Mu} {L : Addr} {hs : List Hd} {xs : List Str} (w : Rowing μ μ' L hs xs) (hL : μ L = none) : ∀ a o, μ a = some o → μ' a = some o := fun a o h => by
  rw [w.oth a (ne_no h hL) fun m => ?_]
  · exact h
  · obtain ⟨g, mg, rfl⟩ := List.mem_map.mp m
    rw [(w.new g mg).1] at h
    cases h
end
end Dl
namespace Dl
open PySem PySem.Spec PyProof.Rows L2
/-! ### names drawn -/
/-! sixty names, one of them is free -/
theorem len_sub {α : Type} [DecidableEq α] : ∀ {l k : List α}, l.Nodup → (∀ x ∈ l, x ∈ k) → l.length ≤ k.length
  | [], _, _, _ => Nat.zero_le _
  | x :: l, k, nd, h => by
    have nd' := List.nodup_cons.mp nd
    have hx := h x List.mem_cons_self
    have ih := len_sub (k := k.erase x) nd'.2 fun y hy => (List.mem_erase_of_ne fun (e : y = x) => nd'.1 (e ▸ hy)).mpr (h y (List.mem_cons_of_mem _ hy))
    rw [List.length_erase_of_mem hx] at ih
    have := List.length_pos_of_mem hx
    rw [List.length_cons]
    omega
end Dl
namespace Dl
open PySem PySem.Spec PyProof.Rows L2
/-! ### a store and a law's own rows of it -/
def rwD (q : Str × List Int) : Key × D := (.inr q.1, .lst (q.2.map .int))
structure Mo (C : Addr) (μ : Mu) (p m m1 w1 : Addr) (S : SC) (B : Nat) : Prop where
  st : St C μ S
  ok : OkN S B
  fx : S.fx.length ≤ 100
  pot : μ p = some .pot
  hm : μ m = some (.dK [(.inr "rows", .at m1), (.inr "words", .at w1)])
  hr : μ m1 = some (.dK (S.rws.map rwD))
  hw : μ w1 = some (.lst ((S.ts.map Th.w).map .str))
  pF : p ∉ foot (S.cells C)
  mF : m ∉ foot (S.cells C)
  rF : m1 ∉ foot (S.cells C)
  wF : w1 ∉ foot (S.cells C)
  ne : m ≠ m1
  num : S.ts.map Th.n = (List.range S.ts.length).map fun (i : Nat) => (i : Int)
  cnt : S.many = S.ts.length
section
variable {C : Addr} {μ : Mu} {p m m1 w1 : Addr} {S : SC} {B : Nat}
theorem Mo.names (o : Mo C μ p m m1 w1 S B) : (S.hs.map Hd.nm).Nodup := o.ok.hn
/-- a row set anew -/
def setR (rs : List (Str × List Int)) (nm : Str) (r : List Int) : List (Str × List Int) := rs.map fun q => (q.1, if q.1 = nm then r else q.2)
theorem rws_setRow {nm : Str} {f : List Int → List Int} (hn : (S.hs.map Hd.nm).Nodup) {g : Hd} (h : g ∈ S.hs) : (S.setRow g.nm f).rws = setR S.rws g.nm (f g.row) := by
  unfold SC.rws setR
  have e : (S.setRow g.nm f).hs = S.hs.map fun y => if y.nm = g.nm then { y with row := f y.row } else y := rfl
  rw [e, List.map_map, List.map_map]
  refine List.map_congr_left fun y hy => ?_
  show ((if y.nm = g.nm then { y with row := f y.row } else y).nm, (if y.nm = g.nm then { y with row := f y.row } else y).row) = (y.nm, if y.nm = g.nm then f g.row else y.row)
  by_cases c : y.nm = g.nm
  · rw [if_pos c, if_pos c, nd_eq hn hy h c]
  · rw [if_neg c, if_neg c]
theorem rws_have (hn : (S.hs.map Hd.nm).Nodup) {g : Hd} (h : g ∈ S.hs) {n : Int} : (S.have_ g.nm n).rws = setR S.rws g.nm (g.row ++ [n]) := rws_setRow (f := (· ++ [n])) (nm := g.nm) hn h
theorem rws_put {o : Int} {k : Str} {r : Rw} : (S.put_ o k r).rws = S.rws := by
  unfold SC.rws
  rw [hs_put]
theorem ws_of (e : S.wds = S.wds) : S.ts.map Th.w = S.wds.map (·.2) := by
  unfold SC.wds
  rw [List.map_map]
  rfl
theorem wn_of {S' : SC} (e : S'.wds = S.wds) : S'.ts.map Th.w = S.ts.map Th.w ∧ S'.ts.map Th.n = S.ts.map Th.n ∧ S'.ts.length = S.ts.length := by
  refine ⟨?_, ?_, ?_⟩
  · rw [ws_of (S := S') rfl, ws_of (S := S) rfl, e]
  · have a : ∀ S : SC, S.ts.map Th.n = S.wds.map (·.1) := fun S => by
      unfold SC.wds
      rw [List.map_map]
      rfl
    rw [a, a, e]
  · have := congrArg List.length e
    unfold SC.wds at this
    rw [List.length_map, List.length_map] at this
    exact this
/-- what a deed leaves, once the law's own rows have followed -/
theorem Mo.next (o : Mo C μ p m m1 w1 S B) {μ' : Mu} {S' : SC} {B' : Nat} (s : St C μ' S') (k : OkN S' B') (sm : Same (foot (S.cells C)) μ μ') (e : S'.wds = S.wds) (ef : foot (S'.cells C) = foot (S.cells C)) (efx : S'.fx = S.fx) (em : S'.many = S.many) : Mo C (put μ' m1 (.dK (S'.rws.map rwD))) p m m1 w1 S' B' := by
  obtain ⟨e1, e2, e3⟩ := wn_of e
  have pm : p ≠ m1 := fun z => by
    have h1 := o.pot
    have h2 := o.hr
    rw [← z, h1] at h2
    cases h2
  have wm : w1 ≠ m1 := fun z => by
    have h1 := o.hw
    have h2 := o.hr
    rw [← z, h1] at h2
    cases h2
  refine ⟨⟨s.sits.put (by rw [ef]; exact o.rF), s.hn, s.tn, s.mt⟩, k, by rw [efx]; exact o.fx, ?_, ?_, put_same, ?_, by rw [ef]; exact o.pF, by rw [ef]; exact o.mF, by rw [ef]; exact o.rF, by rw [ef]; exact o.wF, o.ne, by rw [e2, e3]; exact o.num, by rw [em, e3]; exact o.cnt⟩
  · rw [put_ne pm]
    exact sm.at o.pF o.pot
  · rw [put_ne o.ne]
    exact sm.at o.mF o.hm
  · rw [put_ne wm, e1]
    exact sm.at o.wF o.hw
end
end Dl
namespace Dl
open PySem PySem.Spec PyProof.Rows L2
/-- from one state of a store and a law's own rows to a later one -/
structure Nx (C : Addr) (μ μ' : Mu) (m1 w1 : Addr) (S S' : SC) : Prop where
  t : S'.t = S.t
  nm : S'.hs.map Hd.nm = S.hs.map Hd.nm
  kp : ∀ a o, μ a = some o → a ∉ foot (S.cells C) → a ≠ m1 → a ≠ w1 → μ' a = some o
  ft : ∀ a ∈ foot (S'.cells C), a ∈ foot (S.cells C) ∨ μ a = none
section
variable {C : Addr} {μ μ' : Mu} {p m m1 w1 : Addr} {S S' : SC} {B : Nat}
theorem Nx.refl : Nx C μ μ m1 w1 S S := ⟨rfl, rfl, fun _ _ h _ _ _ => h, fun _ h => .inl h⟩
theorem OkN.mono (o : OkN S B) {B' : Nat} (h : B ≤ B') : OkN S B' := ⟨o.ok, o.hn, fun x m => Nat.le_trans (o.kl x m) h, o.rl, o.sl, o.tl, o.hl, o.nm, o.m0, o.m1⟩
theorem Mo.mono (o : Mo C μ p m m1 w1 S B) {B' : Nat} (h : B ≤ B') : Mo C μ p m m1 w1 S B' := { o with ok := o.ok.mono h }
theorem Mo.pr (o : Mo C μ p m m1 w1 S B) : p ≠ m1 ∧ w1 ≠ m1 ∧ p ≠ w1 ∧ m ≠ w1 ∧ p ≠ m := by
  have h1 := o.pot
  have h2 := o.hr
  have h3 := o.hw
  have h4 := o.hm
  refine ⟨fun z => ?_, fun z => ?_, fun z => ?_, fun z => ?_, fun z => ?_⟩
  · rw [← z, h1] at h2; cases h2
  · rw [← z, h3] at h2; cases h2
  · rw [← z, h1] at h3; cases h3
  · rw [← z, h4] at h3; cases h3
  · rw [← z, h1] at h4; cases h4
/-- a deed that changes no foot -/
theorem Mo.nx (o : Mo C μ p m m1 w1 S B) (sm : Same (foot (S.cells C)) μ μ') (ef : foot (S'.cells C) = foot (S.cells C)) (et : S'.t = S.t) (en : S'.hs.map Hd.nm = S.hs.map Hd.nm) {x : O} : Nx C μ (put μ' m1 x) m1 w1 S S' :=
  ⟨et, en, fun a o' h n h1 _ => by rw [put_ne h1]; exact sm.at n h, fun a h => .inl (ef ▸ h)⟩
theorem nms_have {nm : Str} {n : Int} : (S.have_ nm n).hs.map Hd.nm = S.hs.map Hd.nm := nms_setRow (S := S) (f := (· ++ [n]))
theorem nms_lose {nm : Str} {n : Int} : (S.lose nm n).hs.map Hd.nm = S.hs.map Hd.nm := nms_setRow (S := S) (f := fun r => woLast r n)
/-- a thing made -/
theorem Mo.made (o : Mo C μ p m m1 w1 S B) {g : Hd} (hg : g ∈ S.hs) (h30 : g.row.length < 30) (h40 : S.ts.length < 40) {y : Th} {w : Str} (yn : y.n = S.many) (sl : y.sl = []) (yw : y.w = w) (ke : y.ke = []) (n1 : μ y.sa = none) (n2 : μ y.ka = none)
    (s : St C μ' ((S.addTh y).have_ g.nm S.many)) (sm : Same (foot ((S.addTh y).cells C)) μ μ') :
    Mo C (put (put μ' m1 (.dK ((setR S.rws g.nm (g.row ++ [S.many])).map rwD))) w1 (.lst ((S.ts.map Th.w).map .str ++ [.str w]))) p m m1 w1 ((S.addTh y).have_ g.nm S.many) (B + 1) ∧ Nx C μ (put (put μ' m1 (.dK ((setR S.rws g.nm (g.row ++ [S.many])).map rwD))) w1 (.lst ((S.ts.map Th.w).map .str ++ [.str w]))) m1 w1 S ((S.addTh y).have_ g.nm S.many) := by
  obtain ⟨pm, wm, pw, mw, _⟩ := o.pr
  have hm := o.cnt
  have o1 := o.ok.addTh yn sl ke h40 (by omega)
  have hin : S.many ∈ (S.addTh y).ts.map Th.n := List.mem_map.mpr ⟨y, List.mem_append.mpr (.inr (List.mem_singleton.mpr rfl)), yn⟩
  have o2 := OkN.have_ o1 (g := g) hg hin h30
  have ef : foot (((S.addTh y).have_ g.nm S.many).cells C) = foot ((S.addTh y).cells C) := foot_have
  have out : ∀ a o', μ a = some o' → a ∉ foot (S.cells C) → a ∉ foot ((S.addTh y).cells C) := fun a o' h n z => by
    rw [foot_eq] at z n
    simp only [SC.addTh, List.mem_cons, List.mem_append, List.map_append, List.map_cons, List.map_nil, List.not_mem_nil, or_false, not_or] at z n
    rcases z with z | z | z | z | z | z | (z | z) | (z | z) | z
    · exact n.1 z
    · exact n.2.1 z
    · exact n.2.2.1 z
    · exact n.2.2.2.1 z
    · exact n.2.2.2.2.1 z
    · exact n.2.2.2.2.2.1 z
    · exact n.2.2.2.2.2.2.1 z
    · rw [z, n1] at h; cases h
    · exact n.2.2.2.2.2.2.2.1 z
    · rw [z, n2] at h; cases h
    · exact n.2.2.2.2.2.2.2.2 z
  have pF := out p _ o.pot o.pF
  have mF := out m _ o.hm o.mF
  have rF := out m1 _ o.hr o.rF
  have wF := out w1 _ o.hw o.wF
  have er : ((S.addTh y).have_ g.nm S.many).rws = setR S.rws g.nm (g.row ++ [S.many]) := rws_have (S := S.addTh y) o.ok.hn hg
  have ew : ((S.addTh y).have_ g.nm S.many).ts.map Th.w = S.ts.map Th.w ++ [w] := by
    rw [(wn_of (S := S.addTh y) wds_have).1]
    show (S.ts ++ [y]).map Th.w = _
    rw [List.map_append, ← yw]
    rfl
  have en : ((S.addTh y).have_ g.nm S.many).ts.map Th.n = S.ts.map Th.n ++ [S.many] := by
    rw [(wn_of (S := S.addTh y) wds_have).2.1]
    show (S.ts ++ [y]).map Th.n = _
    rw [List.map_append, ← yn]
    rfl
  have el : ((S.addTh y).have_ g.nm S.many).ts.length = S.ts.length + 1 := by
    rw [(wn_of (S := S.addTh y) wds_have).2.2]
    show (S.ts ++ [y]).length = _
    simp
  refine ⟨⟨⟨(s.sits.put (by rw [ef]; exact rF)).put (by rw [ef]; exact wF), s.hn, s.tn, s.mt⟩, o2, o.fx, ?_, ?_, ?_, ?_, by rw [ef]; exact pF, by rw [ef]; exact mF, by rw [ef]; exact rF, by rw [ef]; exact wF, o.ne, ?_, ?_⟩, ⟨rfl, nms_have (S := S.addTh y), ?_, ?_⟩⟩
  · rw [put_ne pw, put_ne pm]
    exact sm.at pF o.pot
  · rw [put_ne mw, put_ne o.ne]
    exact sm.at mF o.hm
  · rw [put_ne (Ne.symm wm), put_same, er]
  · rw [put_same, ew, List.map_append]
    rfl
  · rw [en, el, List.range_succ, List.map_append, ← o.num, hm]
    rfl
  · show S.many + 1 = _
    rw [el, hm]
    rfl
  · intro a o' h n h1 h2
    rw [put_ne h2, put_ne h1]
    exact sm.at (out a o' h n) h
  · intro a h
    rw [ef] at h
    by_cases c : a ∈ foot (S.cells C)
    · exact .inl c
    · right
      cases e : μ a with
      | none => rfl
      | some o' => exact (out a o' e c h).elim
/-! the slots' names -/
def SlA (S : SC) (P : Str → Prop) : Prop := ∀ x ∈ S.ts, ∀ q ∈ x.sl, P q.1
theorem SlA.modT {P : Str → Prop} (h : SlA S P) {n : Int} {f : Th → Th} (hf : ∀ x ∈ S.ts, ∀ q ∈ (f x).sl, P q.1) : SlA (S.modT n f) P := fun x m q hq => by
  obtain ⟨y, hy, rfl⟩ := mem_modT m
  revert hq
  split
  · exact hf y hy q
  · exact h y hy q
theorem SlA.have_ {P : Str → Prop} (h : SlA S P) {nm : Str} {n : Int} : SlA (S.have_ nm n) P := SlA.modT (S := S.setRow nm (· ++ [n])) h fun x m q hq => h x m q hq
theorem SlA.lose {P : Str → Prop} (h : SlA S P) {nm : Str} {n : Int} : SlA (S.lose nm n) P := SlA.modT (S := S.setRow nm fun r => woLast r n) h fun x m q hq => h x m q hq
theorem SlA.addTh {P : Str → Prop} (h : SlA S P) {y : Th} (e : y.sl = []) : SlA (S.addTh y) P := fun x m q hq => by
  rcases List.mem_append.mp m with m | m
  · exact h x m q hq
  · cases List.mem_singleton.mp m
    rw [e] at hq
    cases hq
theorem SlA.fill {P : Str → Prop} (h : SlA S P) {o : Int} {k : Str} {r : Rw} (hk : P k) : SlA (S.fill o k r) P := by
  have h1 : SlA (S.setSl o fun sl => putA sl k r) P := SlA.modT h fun x m q hq => by
    have hq : q ∈ putA x.sl k r := hq
    unfold putA at hq
    split at hq
    · obtain ⟨z, hz, rfl⟩ := List.mem_map.mp hq
      split
      · exact h x m z hz
      · exact h x m z hz
    · rcases List.mem_append.mp hq with hq | hq
      · exact h x m q hq
      · cases List.mem_singleton.mp hq
        exact hk
  unfold SC.fill
  rcases holds_le (o := o) (r := r) with e | ⟨p, e⟩
  · rw [e]
    exact h1
  · rw [e]
    exact SlA.modT h1 fun x m q hq => h1 x m q hq
theorem SlA.clr {P : Str → Prop} (h : SlA S P) {o : Int} {k : Str} {r : Rw} : SlA (S.clr o k r) P := by
  have h1 : SlA (S.setSl o fun sl => dropA sl k) P := SlA.modT h fun x m q hq => h x m q (dropA_sub hq)
  unfold SC.clr
  rcases holds_le (o := o) (r := r) with e | ⟨p, e⟩
  · rw [e]
    exact h1
  · rw [e]
    exact SlA.modT h1 fun x m q hq => h1 x m q hq
theorem SlA.put_ {P : Str → Prop} (h : SlA S P) {o : Int} {k : Str} {r : Rw} (hk : P k) : SlA (S.put_ o k r) P := by
  unfold SC.put_
  cases getA (S.slOf o) k with
  | none => exact h.fill hk
  | some r0 => exact SlA.fill h.clr hk
theorem fx_clr {o : Int} {k : Str} {r : Rw} : (S.clr o k r).fx = S.fx := by
  unfold SC.clr
  rcases holds_le (o := o) (r := r) with e | ⟨p, e⟩ <;> rw [e] <;> rfl
theorem fx_fill {o : Int} {k : Str} {r : Rw} : (S.fill o k r).fx = S.fx ∧ (S.fill o k r).t = S.t := by
  unfold SC.fill
  rcases holds_le (o := o) (r := r) with e | ⟨p, e⟩ <;> rw [e] <;> exact ⟨rfl, rfl⟩
theorem fx_put {o : Int} {k : Str} {r : Rw} : (S.put_ o k r).fx = S.fx ∧ (S.put_ o k r).t = S.t := by
  unfold SC.put_
  cases getA (S.slOf o) k with
  | none => exact fx_fill
  | some r0 => exact ⟨fx_fill.1.trans fx_clr, fx_fill.2.trans t_clr.1⟩
end
end Dl
namespace Dl
open PySem PySem.Spec PyProof.Rows L2
section
variable {C : Addr} {μ μ' : Mu} {p m m1 w1 : Addr} {S S' : SC} {B : Nat}
theorem give_ok (o : OkN S B) {g g' : Hd} (mg : g ∈ S.hs) {n : Int} (hn : n ∈ g.row) (mg' : g' ∈ S.hs) (h : g'.nm ≠ g.nm → g'.row.length < 30) : ∃ u ∈ (S.lose g.nm n).hs, u.nm = g'.nm ∧ u.row.length < 30 := by
  by_cases c : g'.nm = g.nm
  · refine ⟨{ g with row := woLast g.row n }, List.mem_map.mpr ⟨g, mg, by rw [if_pos rfl]⟩, c.symm, ?_⟩
    have := woLast_len hn
    have := o.rl g mg
    show (woLast g.row n).length < 30
    omega
  · exact ⟨g', List.mem_map.mpr ⟨g', mg', by rw [if_neg c]⟩, rfl, h c⟩
theorem ns_lose {nm : Str} {n : Int} : (S.lose nm n).ts.map Th.n = S.ts.map Th.n := ns_delKe (S := S.setRow nm fun r => woLast r n)
theorem len_rws : S.rws.length = S.hs.length := by
  unfold SC.rws
  rw [List.length_map]
end
end Dl
namespace Dl
open PySem PySem.Spec PyProof.Rows L2
theorem Shw.str {x : Str} {n : Nat} (h : ∀ c ∈ x.cps.toList, c < 16 ^ 8) (hl : x.length ≤ n) : Shw (.str x) n 1 :=
  ⟨rfl, by simp only [PyData.leavesShort, List.all_eq_true]; exact fun c hc => decide_eq_true (h c hc), by simp only [PyData.weight]; exact hl, by simp [PyData.depth]⟩
theorem let_small : ∀ c ∈ letters.cps.toList, c < 16 ^ 8 := by decide +kernel
def okW (x : Str) : Prop := x = "" ∨ nameB x = true
theorem Shw.name {x : Str} (h : okW x) : Shw (.str x) 8 1 := by
  rcases h with rfl | h
  · exact Shw.str (fun c hc => by cases hc) (Nat.zero_le _)
  · have hl := nameB_len h
    refine Shw.str (fun c hc => ?_) hl.2
    unfold nameB at h
    simp only [Bool.and_eq_true] at h
    have := List.all_eq_true.mp h.2 c hc
    exact let_small c (of_decide_eq_true this)
theorem Shw.ints {xs : List Int} (h : ∀ x ∈ xs, x.natAbs < 10 ^ 40) : Shw (.list (xs.map .int)) (135 * xs.length) 2 := by
  have := Shw.list (n := 134) (k := 1) (xs := xs.map PyData.int) (fun p hp => by
    obtain ⟨x, hx, rfl⟩ := List.mem_map.mp hp
    exact .int (h x hx))
  rw [List.length_map] at this
  exact this
theorem Shw.names {xs : List Str} (h : ∀ x ∈ xs, okW x) : Shw (.list (xs.map .str)) (9 * xs.length) 2 := by
  have := Shw.list (n := 8) (k := 1) (xs := xs.map PyData.str) (fun p hp => by
    obtain ⟨x, hx, rfl⟩ := List.mem_map.mp hp
    exact .name (h x hx))
  rw [List.length_map] at this
  exact this
section
variable {μ : Mu} {Q : DQ}
theorem rss_ints (xs : List Int) : Rss μ (xs.map .int) (xs.map .int) := Rss.map fun x _ => .int x
end
end Dl
namespace Dl
open PySem PySem.Spec PyProof.Rows L2
section
variable {C : Addr} {μ μ' : Mu} {p m m1 w1 : Addr} {S S' : SC} {B : Nat}
theorem St.off (s : St C μ S) {a : Addr} {o : O} (h : a ∉ foot (S.cells C)) : St C (put μ a o) S := ⟨s.sits.put h, s.hn, s.tn, s.mt⟩
theorem St.new (s : St C μ S) {a : Addr} {o : O} (h : μ a = none) : St C (put μ a o) S := s.off (s.sits.fresh h)
theorem St.less (s : St C μ S) (l : Less μ' μ) : St C μ' S := ⟨s.sits.less l, s.hn, s.tn, s.mt⟩
end
end Dl
namespace Dl
open PySem PySem.Spec PyProof.Rows L2
/-! ### lists of one's own, told and then spoilt -/
def Own (b : Nat) (μ0 μ : Mu) (d : D) : Prop := ∃ l xs, d = .at l ∧ μ0 l = none ∧ μ l = some (.lst xs) ∧ xs.length ≤ b
section
variable {μ0 μ μ' : Mu} {d : D} {b : Nat}
theorem Own.put_ (h : Own b μ0 μ d) {l : Addr} {xs : List D} (hl : xs.length ≤ b) : Own b μ0 (put μ l (.lst xs)) d := by
  obtain ⟨k, ys, rfl, h1, h2, h3⟩ := h
  by_cases c : k = l
  · subst c
    exact ⟨k, xs, rfl, h1, put_same, hl⟩
  · exact ⟨k, ys, rfl, h1, by rw [put_ne c]; exact h2, h3⟩
theorem Own.off (h : Own b μ0 μ d) {a : Addr} {o : O} (n : μ0 a ≠ none) : Own b μ0 (put μ a o) d := by
  obtain ⟨k, ys, rfl, h1, h2, h3⟩ := h
  exact ⟨k, ys, rfl, h1, by rw [put_ne fun (e : k = a) => n (e ▸ h1)]; exact h2, h3⟩
theorem Own.new (h : Own b μ0 μ d) {a : Addr} {o : O} (n : μ a = none) : Own b μ0 (put μ a o) d := by
  obtain ⟨k, ys, rfl, h1, h2, h3⟩ := h
  exact ⟨k, ys, rfl, h1, by rw [put_ne (ne_no h2 n)]; exact h2, h3⟩
theorem Own.mono (h : Own b μ0 μ d) {c : Nat} (n : b ≤ c) : Own c μ0 μ d := by
  obtain ⟨k, ys, rfl, h1, h2, h3⟩ := h
  exact ⟨k, ys, rfl, h1, h2, Nat.le_trans h3 n⟩
end
end Dl
namespace Dl
open PySem PySem.Spec PyProof.Rows L2
section
variable {C : Addr} {μ μ' μb : Mu} {p m m1 w1 : Addr} {S S' : SC} {B : Nat}
/-- what stood at the start stands -/
structure Fr (C : Addr) (μb μ : Mu) (m1 w1 : Addr) (S : SC) : Prop where
  kp : ∀ a o, μb a = some o → μ a = some o
  ft : ∀ a ∈ foot (S.cells C), μb a = none
  n1 : μb m1 = none
  n2 : μb w1 = none
theorem Fr.next (f : Fr C μb μ m1 w1 S) (x : Nx C μ μ' m1 w1 S S') : Fr C μb μ' m1 w1 S' := by
  refine ⟨fun a o h => x.kp a o (f.kp a o h) (fun z => ?_) (fun z => ?_) (fun z => ?_), fun a ha => ?_, f.n1, f.n2⟩
  · rw [f.ft a z] at h; cases h
  · rw [z, f.n1] at h; cases h
  · rw [z, f.n2] at h; cases h
  · rcases x.ft a ha with h | h
    · exact f.ft a h
    · cases e : μb a with
      | none => rfl
      | some o => rw [f.kp a o e] at h; cases h
theorem Fr.less (f : Fr C μb μ m1 w1 S) : Less μ μb := fun a => by
  cases e : μb a with
  | none => exact .inl rfl
  | some o => exact .inr (f.kp a o e).symm
theorem OkN.init {S : SC} (ht : S.ts = []) (hm : S.many = 0) (hr : ∀ g ∈ S.hs, g.row = []) (hn : (S.hs.map Hd.nm).Nodup) (hl : S.hs.length ≤ 6) (nm : ∀ g ∈ S.hs, nameB g.nm = true) : OkN S 0 where
  ok := {
    many := fun x h => by rw [ht] at h; cases h
    srt := by rw [ht]; exact .nil
    rows := fun g hg x hx => by rw [hr g hg] at hx; cases hx
    refs := fun x h => by rw [ht] at h; cases h
    sln := fun x h => by rw [ht] at h; cases h
    kept := fun x h => by rw [ht] at h; cases h }
  hn := hn
  kl := fun x h => by rw [ht] at h; cases h
  rl := fun g hg => by rw [hr g hg]; exact Nat.zero_le _
  sl := fun x h => by rw [ht] at h; cases h
  tl := by rw [ht]; exact Nat.zero_le _
  hl := hl
  nm := nm
  m0 := by rw [hm]; decide
  m1 := by rw [hm]; decide
end
end Dl
namespace Dl
open PySem PySem.Spec PyProof.Rows L2
/-! ### zip(text, tuple) walked: a short text of plain signs -/
end Dl
namespace Dl
open PySem PySem.Spec PyProof.Rows L2
/-! the data's own rule -/
section
variable {B : Bs} {X : Cx} {e : Expr} {a : WA}
def wZipS (a : WA) : WI := fun ρ μ Q => a ρ μ fun vs μ1 => ∃ (x : Str) (ys : List D), vs = [.str x, .tup ys] ∧ x.cps.all (· < 128) = true ∧ x.cps.size = ys.length ∧ Q (List.zipWith (fun c y => .tup [.str ⟨#[c]⟩, y]) x.cps.toList ys) (fun _ => True) μ1
end
end Dl
namespace Dl
open PySem PySem.Spec PyProof.Rows L2
/-! ### names in their order -/
/-! ### slots, whatever their order -/
theorem getA_mem {sl : List (Str × Rw)} (nd : (sl.map (·.1)).Nodup) {k : Str} {r : Rw} (h : (k, r) ∈ sl) : getA sl k = some r := by
  cases e : getA sl k with
  | none =>
    have := getA_is (sl := sl) (k := k)
    rw [e, decide_eq_true (List.mem_map.mpr ⟨_, h, rfl⟩)] at this
    cases this
  | some r2 =>
    have h2 := getA_some e
    have := nd_eq nd h h2 rfl
    cases this
    rfl
theorem getA_none {sl : List (Str × Rw)} {k : Str} : getA sl k = none ↔ k ∉ sl.map (·.1) := by
  have := getA_is (sl := sl) (k := k)
  cases e : getA sl k with
  | none =>
    rw [e] at this
    exact ⟨fun _ => of_decide_eq_false this.symm, fun _ => rfl⟩
  | some r =>
    rw [e] at this
    exact ⟨fun h => (by cases h), fun h => (h (of_decide_eq_true this.symm)).elim⟩
theorem getA_perm {a b : List (Str × Rw)} (nd : (a.map (·.1)).Nodup) (h : a.Perm b) (k : Str) : getA a k = getA b k := by
  have nb : (b.map (·.1)).Nodup := (h.map (·.1)).nodup_iff.mp nd
  cases e : getA a k with
  | none => exact (getA_none.mpr fun m => getA_none.mp e ((h.map (·.1)).mem_iff.mpr m)).symm
  | some r => exact (getA_mem nb (h.mem_iff.mp (getA_some e))).symm
theorem dropA_perm {a b : List (Str × Rw)} (h : a.Perm b) (k : Str) : (dropA a k).Perm (dropA b k) := h.filter _
theorem putA_perm1 {k : Str} {r : Rw} : ∀ {a : List (Str × Rw)}, (a.map (·.1)).Nodup → (putA a k r).Perm (dropA a k ++ [(k, r)])
  | [], _ => .refl _
  | q :: a, nd => by
    rw [List.map_cons, List.nodup_cons] at nd
    by_cases c : q.1 = k
    · have hk : k ∈ (q :: a).map (·.1) := by rw [List.map_cons, c]; exact List.mem_cons_self
      have e1 : putA (q :: a) k r = (k, r) :: a := by
        unfold putA
        rw [if_pos hk, List.map_cons, if_pos c, c]
        congr 1
        refine (List.map_congr_left fun p hp => ?_).trans (List.map_id a)
        rw [if_neg]
        · rfl
        · exact fun e => nd.1 (by rw [c, ← e]; exact List.mem_map.mpr ⟨p, hp, rfl⟩)
      have e2 : dropA (q :: a) k = a := by
        unfold dropA
        rw [List.filter_cons_of_neg (by simp [c])]
        refine List.filter_eq_self.mpr fun p hp => decide_eq_true fun z => nd.1 ?_
        rw [c, ← z]
        exact List.mem_map.mpr ⟨p, hp, rfl⟩
      rw [e1, e2]
      exact (List.perm_append_singleton (k, r) a).symm
    · have ih := putA_perm1 (k := k) (r := r) nd.2
      have e2 : dropA (q :: a) k = q :: dropA a k := by
        unfold dropA
        rw [List.filter_cons_of_pos (by simp [c])]
      have e1 : putA (q :: a) k r = q :: putA a k r := by
        unfold putA
        by_cases m : k ∈ a.map (·.1)
        · rw [if_pos m, if_pos (by rw [List.map_cons]; exact List.mem_cons_of_mem _ m), List.map_cons, if_neg c]
        · rw [if_neg m, if_neg (by
            rw [List.map_cons, List.mem_cons]
            rintro (e | e)
            · exact c e.symm
            · exact m e)]
          rfl
      rw [e1, e2]
      exact .cons q ih
end Dl
namespace Dl
open PySem PySem.Spec PyProof.Rows L2
/-! ### a law's own model of a store: rows, slots, last words, depths -/
structure MT where
  n : Int
  a : Addr
  sl : List (Str × Rw)
  w : Str
  dp : Int
structure MS where
  m : Addr
  mr : Addr
  ms : Addr
  ml : Addr
  md : Addr
  rs : List (Str × List Int)
  ts : List MT
  many : Int
  names : List Str
  fl : D
  sd : D
def MS.flds (M : MS) : List (Key × D) := [(.inr "rows", .at M.mr), (.inr "slots", .at M.ms), (.inr "last", .at M.ml), (.inr "made", .int M.many), (.inr "names", .lst (M.names.map .str)), (.inr "deep", .at M.md), (.inr "falls", M.fl), (.inr "said", M.sd)]
def MS.dS (M : MS) : List (Key × D) := M.ts.map fun x => (.inl x.n, .at x.a)
def MS.dL (M : MS) : List (Key × D) := M.ts.map fun x => (.inl x.n, .str x.w)
def MS.dD (M : MS) : List (Key × D) := M.ts.map fun x => (.inl x.n, .int x.dp)
def MS.cells (M : MS) : Cells := (M.m, .dK M.flds) :: (M.mr, .dK (M.rs.map rwD)) :: (M.ms, .dK M.dS) :: (M.ml, .dK M.dL) :: (M.md, .dK M.dD) :: M.ts.map fun x => (x.a, O.dK (slK x.sl))
theorem mfoot_eq {M : MS} : foot M.cells = M.m :: M.mr :: M.ms :: M.ml :: M.md :: M.ts.map MT.a := by
  simp only [foot, MS.cells, List.map_cons, List.map_map]
  rfl
section
variable {μ : Mu} {M : MS} {T : D → Prop} {R : Option D → Prop}
abbrev MSt (μ : Mu) (M : MS) : Prop := Sits μ M.cells
theorem MSt.m_ (s : MSt μ M) : μ M.m = some (.dK M.flds) := s.at_ (M.m, _) (by simp [MS.cells])
theorem MSt.mr_ (s : MSt μ M) : μ M.mr = some (.dK (M.rs.map rwD)) := s.at_ (M.mr, _) (by simp [MS.cells])
theorem MSt.ms_ (s : MSt μ M) : μ M.ms = some (.dK M.dS) := s.at_ (M.ms, _) (by simp [MS.cells])
theorem MSt.sl_ (s : MSt μ M) {x : MT} (h : x ∈ M.ts) : μ x.a = some (.dK (slK x.sl)) := s.at_ (x.a, _) (by
  simp only [MS.cells, List.mem_cons, List.mem_map]
  exact .inr (.inr (.inr (.inr (.inr ⟨x, h, rfl⟩)))))
theorem _root_.Dl.Sits.sits' {cs : Cells} (s : Sits μ cs) {a : Addr} (h : μ a = none) (o : O) : Sits (put μ a o) cs := s.put (s.fresh h)
/-! ### what changes in it -/
def updR (rs : List (Str × List Int)) (h : Str) (f : List Int → List Int) : List (Str × List Int) := rs.map fun q => (q.1, if q.1 = h then f q.2 else q.2)
theorem updR_names {rs : List (Str × List Int)} {h : Str} {f : List Int → List Int} : (updR rs h f).map (·.1) = rs.map (·.1) := by
  unfold updR
  rw [List.map_map]
  rfl
def MS.updRow (M : MS) (h : Str) (f : List Int → List Int) : MS := { M with rs := updR M.rs h f }
def MS.modT (M : MS) (n : Int) (f : MT → MT) : MS := { M with ts := M.ts.map fun x => if x.n = n then f x else x }
theorem MSt.nd_ (s : MSt μ M) : (M.m :: M.mr :: M.ms :: M.ml :: M.md :: M.ts.map MT.a).Nodup := by
  have := s.nd
  rw [show M.cells.map (·.1) = foot M.cells from rfl, mfoot_eq] at this
  exact this
theorem MSt.updRow (s : MSt μ M) {h : Str} {f : List Int → List Int} : MSt (put μ M.mr (.dK ((updR M.rs h f).map rwD))) (M.updRow h f) := by
  have nd := s.nd_
  simp only [List.nodup_cons, List.mem_cons, not_or] at nd
  refine s.upd (by show foot _ = foot _; rw [mfoot_eq, mfoot_eq]; rfl) fun q hq => ?_
  simp only [MS.cells, List.mem_cons, List.mem_map] at hq
  rcases hq with rfl | rfl | rfl | rfl | rfl | ⟨x, hx, rfl⟩
  · exact .inr ⟨by simp [MS.cells, MS.updRow, MS.flds], nd.1.1⟩
  · exact .inl rfl
  · exact .inr ⟨by simp [MS.cells, MS.updRow, MS.dS], fun e => nd.2.1.1 e.symm⟩
  · exact .inr ⟨by simp [MS.cells, MS.updRow, MS.dL], fun e => nd.2.1.2.1 e.symm⟩
  · exact .inr ⟨by simp [MS.cells, MS.updRow, MS.dD], fun e => nd.2.1.2.2.1 e.symm⟩
  · refine .inr ⟨?_, fun e => nd.2.1.2.2.2 (by rw [← e]; exact List.mem_map.mpr ⟨x, hx, rfl⟩)⟩
    simp only [MS.cells, List.mem_cons, List.mem_map]
    exact .inr (.inr (.inr (.inr (.inr ⟨x, hx, rfl⟩))))
theorem modT_mapM {β : Type} {g : MT → β} {n : Int} {f : MT → MT} (h : ∀ x, g (f x) = g x) : (M.modT n f).ts.map g = M.ts.map g := by
  unfold MS.modT
  rw [List.map_map]
  refine List.map_congr_left fun x _ => ?_
  show g (if x.n = n then f x else x) = g x
  split
  · exact h x
  · rfl
/-- a thing more -/
def MS.addT (M : MS) (x : MT) : MS := { M with ts := M.ts ++ [x], many := M.many + 1 }
theorem MSt.addT {μ1 : Mu} (s : MSt μ M) {x : MT} (hx : μ x.a = none) (oth : ∀ b, b ≠ M.m → b ≠ M.ms → b ≠ M.ml → b ≠ M.md → b ≠ x.a → μ1 b = μ b) (e1 : μ1 M.m = some (.dK (M.addT x).flds)) (e2 : μ1 M.ms = some (.dK (M.addT x).dS)) (e3 : μ1 M.ml = some (.dK (M.addT x).dL)) (e4 : μ1 M.md = some (.dK (M.addT x).dD)) (e5 : μ1 x.a = some (.dK (slK x.sl))) : MSt μ1 (M.addT x) := by
  have nd := s.nd_
  have f1 := s.fresh hx
  rw [mfoot_eq] at f1
  have p : (foot (M.addT x).cells).Perm (x.a :: foot M.cells) := by
    rw [mfoot_eq, mfoot_eq]
    simp only [MS.addT, List.map_append, List.map_cons, List.map_nil]
    refine List.perm_iff_count.mpr fun a => ?_
    simp only [List.count_cons, List.count_append, List.count_nil]
    omega
  refine ⟨fun q hq => ?_, ?_⟩
  · simp only [MS.cells, List.mem_cons, List.mem_map] at hq
    simp only [List.nodup_cons, List.mem_cons, not_or] at nd f1
    rcases hq with rfl | rfl | rfl | rfl | rfl | ⟨y, hy, rfl⟩
    · exact e1
    · show μ1 M.mr = _
      rw [oth M.mr (Ne.symm nd.1.1) nd.2.1.1 nd.2.1.2.1 nd.2.1.2.2.1 (Ne.symm f1.2.1)]
      exact s.mr_
    · exact e2
    · exact e3
    · exact e4
    · rcases List.mem_append.mp (show y ∈ M.ts ++ [x] from hy) with hy | hy
      · have iy : y.a ∈ M.ts.map MT.a := List.mem_map.mpr ⟨y, hy, rfl⟩
        show μ1 y.a = _
        rw [oth y.a (fun e => nd.1.2.2.2.2 (e ▸ iy)) (fun e => nd.2.2.1.2.2 (e ▸ iy)) (fun e => nd.2.2.2.1.2 (e ▸ iy)) (fun e => nd.2.2.2.2.1 (e ▸ iy)) fun e => f1.2.2.2.2.2 (e ▸ iy)]
        exact s.sl_ hy
      · cases List.mem_singleton.mp hy
        exact e5
  · show (foot (M.addT x).cells).Nodup
    rw [p.nodup_iff, List.nodup_cons, mfoot_eq]
    exact ⟨f1, nd⟩
end
end Dl
namespace Dl
open PySem PySem.Spec PyProof.Rows L2
/-! ### deeds of hands -/
inductive Dd where
  | make (h w : Str) | fill (h : Str) (o : Int) (k : Str) (r : Rw) | empty (h : Str) (o : Int) (k : Str) | take (h : Str) (o : Int) (k : Str) | give (h : Str) (x : Int) (t : Str) | drop (h : Str) (x : Int)
def Rw.deed (h : Str) (o : Int) (k : Str) : Rw → Dl.D
  | .plain x => .tup [.str "put", .str h, .int o, .str k, .int x]
  | .weak x => .tup [.str "show", .str h, .int o, .str k, .int x]
  | .keyed j x => .tup [.str "tie", .str h, .int o, .str k, .int j, .int x]
def Dd.D : Dd → Dl.D
  | .make h w => .tup [.str "make", .str h, .str w]
  | .fill h o k r => r.deed h o k
  | .empty h o k => .tup [.str "empty", .str h, .int o, .str k]
  | .take h o k => .tup [.str "take", .str h, .int o, .str k]
  | .give h x t => .tup [.str "give", .str h, .int x, .str t]
  | .drop h x => .tup [.str "drop", .str h, .int x]
def valOf (sl : List (Str × Rw)) (k : Str) : Int := match getA sl k with
  | some r => r.val
  | none => 0
/-- right kinds, and had -/
def Dd.Ok (rs : List (Str × List Int)) : Dd → Prop
  | .make h w => ∃ row, (h, row) ∈ rs ∧ okW w
  | .fill h o k r => ∃ row, (h, row) ∈ rs ∧ o ∈ row ∧ nameB k = true ∧ r.val ∈ row ∧ ∀ j, r.key = some j → j ∈ row
  | .empty h o k => ∃ row, (h, row) ∈ rs ∧ o ∈ row ∧ nameB k = true
  | .take h o k => ∃ row, (h, row) ∈ rs ∧ o ∈ row ∧ nameB k = true
  | .give h x t => ∃ row, (h, row) ∈ rs ∧ x ∈ row ∧ t ∈ rs.map (·.1)
  | .drop h x => ∃ row, (h, row) ∈ rs ∧ x ∈ row
/-- room, and what is to be there -/
def Dd.Rm (rs : List (Str × List Int)) (sf : Int → List (Str × Rw)) (nt : Nat) : Dd → Prop
  | .make h _ => nt < 40 ∧ ∀ row, (h, row) ∈ rs → row.length < 30
  | .fill _ o k _ => getA (sf o) k = none → (sf o).length < 8
  | .empty _ o k => getA (sf o) k ≠ none
  | .take h o k => ∃ r, getA (sf o) k = some r ∧ ∀ row, (h, row) ∈ rs → row.length < 30 ∧ ∀ j, r.key = some j → j ∈ row
  | .give h _ t => t ≠ h → ∀ row, (t, row) ∈ rs → row.length < 30
  | .drop _ _ => True
/-! slots by number -/
theorem find_mod {α : Type} {key : α → Int} {f : α → α} (hk : ∀ x, key (f x) = key x) (n u : Int) : ∀ l : List α, (l.map fun y => if key y = n then f y else y).find? (fun x => decide (key x = u)) = (l.find? fun x => decide (key x = u)).map fun y => if key y = n then f y else y
  | [] => rfl
  | x :: l => by
    rw [List.map_cons, List.find?_cons, List.find?_cons]
    have e : key (if key x = n then f x else x) = key x := by split <;> simp [hk]
    rw [e]
    by_cases c : key x = u
    · rw [decide_eq_true c]
      rfl
    · rw [decide_eq_false c]
      exact find_mod hk n u l
def MS.slOf (M : MS) (o : Int) : List (Str × Rw) := match M.ts.find? fun x => decide (x.n = o) with
  | some x => x.sl
  | none => []
section
variable {S : SC} {M : MS}
theorem slOf_mod {n u : Int} {f : Th → Th} {g : List (Str × Rw) → List (Str × Rw)} (hk : ∀ x, (f x).n = x.n) (hs : ∀ x, (f x).sl = g x.sl) (h0 : n ∈ S.ts.map Th.n) : (S.modT n f).slOf u = if u = n then g (S.slOf u) else S.slOf u := by
  unfold SC.slOf SC.modT
  simp only
  rw [find_mod (key := Th.n) (f := f) hk n u]
  cases e : S.ts.find? fun x => decide (x.n = u) with
  | none =>
    rw [if_neg]
    · rfl
    · rintro rfl
      obtain ⟨x, hx, e2⟩ := th_of h0
      have := List.find?_eq_none.mp e x hx
      simp [e2] at this
  | some x =>
    have h2 : x.n = u := by simpa using List.find?_some e
    show (if x.n = n then f x else x).sl = _
    by_cases c : u = n
    · rw [if_pos c, if_pos (h2.trans c)]
      exact hs x
    · rw [if_neg c, if_neg fun e => c (h2.symm.trans e)]
theorem slOf_same {n u : Int} {f : Th → Th} (hk : ∀ x, (f x).n = x.n) (hs : ∀ x, (f x).sl = x.sl) : (S.modT n f).slOf u = S.slOf u := by
  unfold SC.slOf SC.modT
  simp only
  rw [find_mod (key := Th.n) (f := f) hk n u]
  cases e : S.ts.find? fun x => decide (x.n = u) with
  | none => rfl
  | some x =>
    show (if x.n = n then f x else x).sl = _
    split
    · exact hs x
    · rfl
theorem slOf_addKes : ∀ (ps : List (Int × List Int)) (S : SC) (u : Int), (S.addKes ps).slOf u = S.slOf u
  | [], _, _ => rfl
  | p :: ps, S, u => (slOf_addKes ps (S.addKe p.1 p.2) u).trans (slOf_same (fun _ => rfl) fun _ => rfl)
theorem slOf_delKes : ∀ (ps : List (Int × List Int)) (S : SC) (u : Int), (S.delKes ps).slOf u = S.slOf u
  | [], _, _ => rfl
  | p :: ps, S, u => (slOf_delKes ps (S.delKe p.1 p.2) u).trans (slOf_same (fun _ => rfl) fun _ => rfl)
theorem slOf_have {nm : Str} {n u : Int} : (S.have_ nm n).slOf u = S.slOf u := slOf_same (S := S.setRow nm (· ++ [n])) (fun _ => rfl) fun _ => rfl
theorem slOf_lose {nm : Str} {n u : Int} : (S.lose nm n).slOf u = S.slOf u := slOf_same (S := S.setRow nm fun r => woLast r n) (fun _ => rfl) fun _ => rfl
theorem slOf_clr {o u : Int} {k : Str} {r : Rw} (h0 : o ∈ S.ts.map Th.n) : (S.clr o k r).slOf u = if u = o then dropA (S.slOf u) k else S.slOf u :=
  (slOf_delKes _ _ _).trans (slOf_mod (g := fun sl => dropA sl k) (fun _ => rfl) (fun _ => rfl) h0)
theorem slOf_fill {o u : Int} {k : Str} {r : Rw} (h0 : o ∈ S.ts.map Th.n) : (S.fill o k r).slOf u = if u = o then putA (S.slOf u) k r else S.slOf u :=
  (slOf_addKes _ _ _).trans (slOf_mod (g := fun sl => putA sl k r) (fun _ => rfl) (fun _ => rfl) h0)
theorem dropA_none {sl : List (Str × Rw)} {k : Str} (h : getA sl k = none) : dropA sl k = sl := by
  unfold dropA
  refine List.filter_eq_self.mpr fun q hq => decide_eq_true fun z => getA_none.mp h (z ▸ List.mem_map.mpr ⟨q, hq, rfl⟩)
theorem slOf_clrO {o u : Int} {k : Str} (h0 : o ∈ S.ts.map Th.n) : (S.clrO o k).slOf u = if u = o then dropA (S.slOf u) k else S.slOf u := by
  unfold SC.clrO
  cases e : getA (S.slOf o) k with
  | none =>
    by_cases c : u = o
    · subst c
      rw [if_pos rfl, dropA_none e]
    · rw [if_neg c]
  | some r => exact slOf_clr h0
theorem slOf_put {o u : Int} {k : Str} {r : Rw} (h0 : o ∈ S.ts.map Th.n) : (S.put_ o k r).slOf u = if u = o then dropA (S.slOf u) k ++ [(k, r)] else S.slOf u := by
  have key : ∀ S1 : SC, o ∈ S1.ts.map Th.n → (∀ v, S1.slOf v = if v = o then dropA (S.slOf v) k else S.slOf v) → (S1.fill o k r).slOf u = if u = o then dropA (S.slOf u) k ++ [(k, r)] else S.slOf u := fun S1 h1 e => by
    rw [slOf_fill h1, e]
    by_cases c : u = o
    · rw [if_pos c, if_pos c, if_pos c]
      unfold putA
      rw [if_neg dropA_no]
    · rw [if_neg c, if_neg c, if_neg c]
  unfold SC.put_
  cases e : getA (S.slOf o) k with
  | none =>
    refine key S h0 fun v => ?_
    by_cases c : v = o
    · subst c
      rw [if_pos rfl, dropA_none e]
    · rw [if_neg c]
  | some r0 => exact key _ (by rw [ns_clr]; exact h0) fun v => slOf_clr h0
theorem slOf_addTh {x : Th} {u : Int} (sl : x.sl = []) : (S.addTh x).slOf u = S.slOf u := by
  unfold SC.slOf SC.addTh
  simp only
  rw [List.find?_append]
  cases e : S.ts.find? fun x => decide (x.n = u) with
  | some y => rfl
  | none =>
    by_cases c : x.n = u
    · have e2 : List.find? (fun x => decide (x.n = u)) [x] = some x := by simp [c]
      rw [e2]
      exact sl
    · have e2 : List.find? (fun x => decide (x.n = u)) [x] = none := by simp [c]
      rw [e2]
      rfl
theorem mslOf_at (tn : (M.ts.map MT.n).Nodup) {y : MT} (m : y ∈ M.ts) : M.slOf y.n = y.sl := by
  unfold MS.slOf
  cases e : M.ts.find? fun x => decide (x.n = y.n) with
  | none =>
    have := List.find?_eq_none.mp e y m
    simp at this
  | some x =>
    have h1 := List.mem_of_find?_eq_some e
    have h3 : x.n = y.n := by simpa using List.find?_some e
    rw [nd_eq tn h1 m h3]
theorem mslOf_mod {n u : Int} {f : List (Str × Rw) → List (Str × Rw)} (h0 : n ∈ M.ts.map MT.n) : (M.modT n fun y => { y with sl := f y.sl }).slOf u = if u = n then f (M.slOf u) else M.slOf u := by
  unfold MS.slOf MS.modT
  simp only
  rw [find_mod (key := MT.n) (f := fun y => { y with sl := f y.sl }) (fun _ => rfl) n u]
  cases e : M.ts.find? fun x => decide (x.n = u) with
  | none =>
    rw [if_neg]
    · rfl
    · rintro rfl
      obtain ⟨x, hx, e2⟩ := List.mem_map.mp h0
      have := List.find?_eq_none.mp e x hx
      simp [e2] at this
  | some x =>
    have h2 : x.n = u := by simpa using List.find?_some e
    show (if x.n = n then { x with sl := f x.sl } else x).sl = _
    by_cases c : u = n
    · rw [if_pos c, if_pos (h2.trans c)]
    · rw [if_neg c, if_neg fun e => c (h2.symm.trans e)]
theorem mslOf_add {x : MT} {u : Int} (sl : x.sl = []) : (M.addT x).slOf u = M.slOf u := by
  unfold MS.slOf MS.addT
  simp only
  rw [List.find?_append]
  cases e : M.ts.find? fun x => decide (x.n = u) with
  | some y => rfl
  | none =>
    by_cases c : x.n = u
    · have e2 : List.find? (fun x => decide (x.n = u)) [x] = some x := by simp [c]
      rw [e2]
      exact sl
    · have e2 : List.find? (fun x => decide (x.n = u)) [x] = none := by simp [c]
      rw [e2]
      rfl
end
/-! ### what a deed does to the model, to the store -/
def MS.note (M : MS) (a : Addr) : Dd → MS
  | .make h w => (M.addT ⟨M.many, a, [], w, 1⟩).updRow h (· ++ [M.many])
  | .fill _ o k r => M.modT o fun y => { y with sl := putA y.sl k r }
  | .empty _ o k => M.modT o fun y => { y with sl := dropA y.sl k }
  | .take h o k => M.updRow h (· ++ [valOf (M.slOf o) k])
  | .give h x t => (M.updRow h (woLast · x)).updRow t (· ++ [x])
  | .drop h x => M.updRow h (woLast · x)
def toldBy (many : Int) (sf : Int → List (Str × Rw)) : Dd → D
  | .make _ _ => .int many
  | .take _ o k => .int (valOf (sf o) k)
  | _ => .non
def SC.did (S : SC) (y : Th) : Dd → SC
  | .make h _ => (S.addTh y).have_ h S.many
  | .fill _ o k r => S.put_ o k r
  | .empty _ o k => S.clrO o k
  | .take h o k => S.have_ h (valOf (S.slOf o) k)
  | .give h x t => (S.lose h x).have_ t x
  | .drop h x => S.lose h x
def NewTh (many : Int) (y : Th) : Dd → Prop
  | .make _ w => y.n = many ∧ y.sl = [] ∧ y.w = w ∧ y.ke = []
  | _ => True
/-- what is in slots: names, and things that there are -/
def SlQ (S : SC) : Prop := ∀ o, ∀ q ∈ S.slOf o, nameB q.1 = true ∧ q.2.val ∈ S.ts.map Th.n ∧ ∀ j, q.2.key = some j → j ∈ S.ts.map Th.n
structure Rl (M : MS) (S : SC) : Prop where
  rs : M.rs = S.rws
  many : M.many = S.many
  ths : (M.ts.map fun x => (x.n, x.w)) = S.wds
  sl : ∀ o, (M.slOf o).Perm (S.slOf o)
section
variable {S : SC} {M : MS} {B : Nat}
theorem rws_upd {nm : Str} {f : List Int → List Int} : (S.setRow nm f).rws = updR S.rws nm f := by
  unfold SC.rws updR SC.setRow SC.modH
  simp only [List.map_map]
  refine List.map_congr_left fun y _ => ?_
  show ((if y.nm = nm then { y with row := f y.row } else y).nm, (if y.nm = nm then { y with row := f y.row } else y).row) = (y.nm, if y.nm = nm then f y.row else y.row)
  split <;> rfl
theorem rws_have' {nm : Str} {n : Int} : (S.have_ nm n).rws = updR S.rws nm (· ++ [n]) := rws_upd (f := (· ++ [n]))
theorem rws_lose' {nm : Str} {n : Int} : (S.lose nm n).rws = updR S.rws nm (woLast · n) := rws_upd (f := fun r => woLast r n)
theorem rws_in {h : Str} {row : List Int} (m : (h, row) ∈ S.rws) : ∃ g ∈ S.hs, g.nm = h ∧ g.row = row := by
  obtain ⟨g, hg, e⟩ := List.mem_map.mp m
  cases e
  exact ⟨g, hg, rfl, rfl⟩
theorem slOf_nodup (o : OkN S B) (u : Int) : ((S.slOf u).map (·.1)).Nodup := by
  unfold SC.slOf
  cases e : S.ts.find? fun x => decide (x.n = u) with
  | none => exact List.nodup_nil
  | some x => exact o.ok.sln x (List.mem_of_find?_eq_some e)
theorem slOf_len (o : OkN S B) (u : Int) : (S.slOf u).length ≤ 8 := by
  unfold SC.slOf
  cases e : S.ts.find? fun x => decide (x.n = u) with
  | none => exact Nat.zero_le _
  | some x => exact o.sl x (List.mem_of_find?_eq_some e)
theorem wds_ns : S.wds.map (·.1) = S.ts.map Th.n := by
  unfold SC.wds
  rw [List.map_map]
  rfl
theorem Rl.ns (R : Rl M S) : M.ts.map MT.n = S.ts.map Th.n := by
  rw [← wds_ns, ← R.ths, List.map_map]
  rfl
theorem Rl.get (R : Rl M S) (o : OkN S B) (u : Int) (k : Str) : getA (M.slOf u) k = getA (S.slOf u) k := (getA_perm (slOf_nodup o u) (R.sl u).symm k).symm
theorem Rl.val (R : Rl M S) (o : OkN S B) (u : Int) (k : Str) : valOf (M.slOf u) k = valOf (S.slOf u) k := by
  unfold valOf
  rw [R.get o]
theorem holds_val {r : Rw} {o : Int} {p : Int × List Int} (h : p ∈ r.holds o) : p.1 = r.val := by
  cases r with
  | plain x => cases List.mem_singleton.mp h; rfl
  | weak x => cases h
  | keyed k v => cases List.mem_singleton.mp h; rfl
theorem wds_addTh {y : Th} : (S.addTh y).wds = S.wds ++ [(y.n, y.w)] := by
  unfold SC.wds SC.addTh
  rw [List.map_append]
  rfl
theorem wds_clrO {o : Int} {k : Str} : (S.clrO o k).wds = S.wds := by
  unfold SC.clrO
  cases getA (S.slOf o) k with
  | none => rfl
  | some r => exact wds_clr
theorem many_clrO {o : Int} {k : Str} : (S.clrO o k).many = S.many := by
  unfold SC.clrO
  cases getA (S.slOf o) k with
  | none => rfl
  | some r => exact many_clr
theorem SlQ.of {S' : SC} (q : SlQ S) (h : ∀ u, S'.slOf u = S.slOf u) (n : ∀ x ∈ S.ts.map Th.n, x ∈ S'.ts.map Th.n) : SlQ S' := fun o p hp => by
  rw [h] at hp
  exact ⟨(q o p hp).1, n _ (q o p hp).2.1, fun j e => n _ ((q o p hp).2.2 j e)⟩
theorem slOf_of {o : Int} (m : o ∈ S.ts.map Th.n) (tn : (S.ts.map Th.n).Nodup) : ∃ y ∈ S.ts, y.n = o ∧ S.slOf o = y.sl := by
  obtain ⟨y, hy, rfl⟩ := th_of m
  exact ⟨y, hy, rfl, slOf_at tn hy⟩
/-- the model follows the store -/
theorem Rl.next (R : Rl M S) (o : OkN S B) (q : SlQ S) {dd : Dd} (ok : dd.Ok S.rws) (rm : dd.Rm S.rws S.slOf S.ts.length) {a : Addr} {y : Th} (ny : NewTh S.many y dd) (hm : S.many < 100000) :
    Rl (M.note a dd) (S.did y dd) ∧ OkN (S.did y dd) (B + 1) ∧ SlQ (S.did y dd) ∧ toldBy M.many M.slOf dd = toldBy S.many S.slOf dd ∧ (S.did y dd).many ≤ S.many + 1 := by
  have hin : ∀ {h row x}, (h, row) ∈ S.rws → x ∈ row → x ∈ S.ts.map Th.n := fun {h row x} m hx => by
    obtain ⟨g, hg, _, rfl⟩ := rws_in m
    exact o.ok.rows g hg x hx
  cases dd with
  | make h w =>
    obtain ⟨row, hr, hw⟩ := ok
    obtain ⟨h40, h30⟩ := rm
    obtain ⟨n1, n2, n3, n4⟩ := ny
    obtain ⟨g, hg, rfl, rfl⟩ := rws_in hr
    have o1 := o.addTh n1 n2 n4 h40 hm
    have hin2 : S.many ∈ (S.addTh y).ts.map Th.n := List.mem_map.mpr ⟨y, List.mem_append.mpr (.inr (List.mem_singleton.mpr rfl)), n1⟩
    refine ⟨⟨?_, ?_, ?_, fun u => ?_⟩, OkN.have_ o1 hg hin2 (h30 _ hr), ?_, ?_, Int.le_refl _⟩
    · show updR M.rs g.nm (· ++ [M.many]) = _
      rw [R.rs, R.many]
      exact (rws_have' (S := S.addTh y)).symm
    · show M.many + 1 = S.many + 1
      rw [R.many]
    · show ((M.ts ++ [_]).map fun x : MT => (x.n, x.w)) = _
      rw [show (S.did y (.make g.nm w)).wds = (S.addTh y).wds from wds_have (S := S.addTh y), wds_addTh, List.map_append, R.ths, n1, n3, ← R.many]
      rfl
    · rw [show (S.did y (.make g.nm w)).slOf u = (S.addTh y).slOf u from slOf_have, slOf_addTh n2]
      exact (show ((M.addT ⟨M.many, a, [], w, 1⟩).slOf u).Perm _ from by rw [mslOf_add rfl]; exact R.sl u)
    · refine SlQ.of q (fun u => (slOf_have (S := S.addTh y)).trans (slOf_addTh n2)) fun x hx => ?_
      have e : (S.did y (.make g.nm w)).ts.map Th.n = (S.addTh y).ts.map Th.n := ns_addKe (S := (S.addTh y).setRow g.nm (· ++ [S.many]))
      rw [e]
      obtain ⟨z, hz, e⟩ := th_of hx
      exact List.mem_map.mpr ⟨z, List.mem_append.mpr (.inl hz), e⟩
    · show D.int M.many = .int S.many
      rw [R.many]
  | fill h u k r =>
    obtain ⟨row, hr, hu, hk, hv, hj⟩ := ok
    have rm' : getA (S.slOf u) k = none → (S.slOf u).length < 8 := rm
    obtain ⟨g, hg, rfl, rfl⟩ := rws_in hr
    have hun := hin hr hu
    have hvn := hin hr hv
    obtain ⟨z, hz, rfl, ez⟩ := slOf_of hun o.tn
    rw [ez] at rm'
    have mn : z.n ∈ M.ts.map MT.n := by rw [R.ns]; exact hun
    refine ⟨⟨?_, ?_, ?_, fun v => ?_⟩, o.put_ hz (fun p hp => by rw [holds_val hp]; exact hvn) rm', ?_, rfl, ?_⟩
    · exact R.rs.trans rws_put.symm
    · exact R.many.trans many_put.symm
    · refine Eq.trans ?_ wds_put.symm
      rw [← R.ths]
      exact modT_mapM (g := fun x : MT => (x.n, x.w)) fun _ => rfl
    · show (((M.modT z.n fun y => { y with sl := putA y.sl k r })).slOf v).Perm ((S.put_ z.n k r).slOf v)
      rw [slOf_put hun, mslOf_mod (f := fun sl => putA sl k r) mn]
      by_cases c : v = z.n
      · rw [if_pos c, if_pos c]
        have nm : ((M.slOf v).map (·.1)).Nodup := (((R.sl v).map (·.1)).nodup_iff).mpr (slOf_nodup o v)
        exact (putA_perm1 nm).trans ((dropA_perm (R.sl v) k).append (.refl _))
      · rw [if_neg c, if_neg c]
        exact R.sl v
    · intro v p hp
      rw [show (S.did y (.fill g.nm z.n k r)).slOf v = _ from slOf_put hun] at hp
      rw [show (S.did y (.fill g.nm z.n k r)).ts.map Th.n = _ from ns_put]
      by_cases c : v = z.n
      · rw [if_pos c] at hp
        rcases List.mem_append.mp hp with hp | hp
        · exact q v p (dropA_sub hp)
        · cases List.mem_singleton.mp hp
          exact ⟨hk, hvn, fun j e => hin hr (hj j e)⟩
      · rw [if_neg c] at hp
        exact q v p hp
    · rw [show (S.did y (.fill g.nm z.n k r)).many = S.many from many_put]
      omega
  | empty h u k =>
    obtain ⟨row, hr, hu, hk⟩ := ok
    have hun := hin hr hu
    obtain ⟨z, hz, rfl, ez⟩ := slOf_of hun o.tn
    have mn : z.n ∈ M.ts.map MT.n := by rw [R.ns]; exact hun
    refine ⟨⟨?_, ?_, ?_, fun v => ?_⟩, (o.clrO hz k).mono (Nat.le_succ _), ?_, rfl, ?_⟩
    · refine R.rs.trans ?_
      unfold SC.rws
      rw [show (S.did y (.empty h z.n k)).hs = S.hs from hs_clrO]
    · exact R.many.trans many_clrO.symm
    · refine Eq.trans ?_ wds_clrO.symm
      rw [← R.ths]
      exact modT_mapM (g := fun x : MT => (x.n, x.w)) fun _ => rfl
    · show (((M.modT z.n fun y => { y with sl := dropA y.sl k })).slOf v).Perm ((S.clrO z.n k).slOf v)
      rw [slOf_clrO hun, mslOf_mod (f := fun sl => dropA sl k) mn]
      by_cases c : v = z.n
      · rw [if_pos c, if_pos c]
        exact dropA_perm (R.sl v) k
      · rw [if_neg c, if_neg c]
        exact R.sl v
    · intro v p hp
      rw [show (S.did y (.empty h z.n k)).slOf v = _ from slOf_clrO hun] at hp
      rw [show (S.did y (.empty h z.n k)).ts.map Th.n = _ from ns_clrO]
      by_cases c : v = z.n
      · rw [if_pos c] at hp
        exact q v p (dropA_sub hp)
      · rw [if_neg c] at hp
        exact q v p hp
    · rw [show (S.did y (.empty h z.n k)).many = S.many from many_clrO]
      omega
  | take h u k =>
    obtain ⟨row, hr, hu, hk⟩ := ok
    obtain ⟨r, er, h30⟩ := rm
    obtain ⟨g, hg, rfl, rfl⟩ := rws_in hr
    have ev : valOf (S.slOf u) k = r.val := by unfold valOf; rw [er]
    have hvn : r.val ∈ S.ts.map Th.n := (q u _ (getA_some er)).2.1
    refine ⟨⟨?_, R.many, ?_, fun v => ?_⟩, ?_, ?_, ?_, ?_⟩
    · show updR M.rs g.nm (· ++ [valOf (M.slOf u) k]) = _
      rw [R.rs, R.val o]
      exact rws_have'.symm
    · exact R.ths.trans wds_have.symm
    · rw [show (S.did y (.take g.nm u k)).slOf v = S.slOf v from slOf_have]
      exact R.sl v
    · show OkN (S.have_ g.nm (valOf (S.slOf u) k)) (B + 1)
      rw [ev]
      exact o.have_ hg hvn (h30 _ hr).1
    · exact SlQ.of q (fun u => slOf_have) fun x hx => by
        rw [show (S.did y (.take g.nm u k)).ts.map Th.n = S.ts.map Th.n from ns_addKe (S := S.setRow g.nm (· ++ [valOf (S.slOf u) k]))]
        exact hx
    · show D.int _ = .int _
      rw [R.val o]
    · show S.many ≤ S.many + 1
      omega
  | give h x t =>
    obtain ⟨row, hr, hx, ht⟩ := ok
    have rm' : t ≠ h → ∀ row, (t, row) ∈ S.rws → row.length < 30 := rm
    obtain ⟨g, hg, rfl, rfl⟩ := rws_in hr
    obtain ⟨⟨t', row'⟩, ht', rfl⟩ := List.mem_map.mp ht
    obtain ⟨g', hg', rfl, rfl⟩ := rws_in ht'
    obtain ⟨u, hu, eu, lu⟩ := give_ok o hg hx hg' fun c => rm' c _ ht'
    have o1 := o.lose hg hx
    have hxn : x ∈ (S.lose g.nm x).ts.map Th.n := by rw [ns_lose]; exact hin hr hx
    have o2 := OkN.have_ o1 hu hxn lu
    rw [eu] at o2
    refine ⟨⟨?_, R.many, ?_, fun v => ?_⟩, o2, ?_, rfl, ?_⟩
    · show updR (updR M.rs g.nm (woLast · x)) g'.nm (· ++ [x]) = _
      rw [R.rs, ← rws_lose', ← rws_have']
      rfl
    · exact R.ths.trans ((wds_have (S := S.lose g.nm x)).trans wds_lose).symm
    · rw [show (S.did y (.give g.nm x g'.nm)).slOf v = S.slOf v from (slOf_have (S := S.lose g.nm x)).trans slOf_lose]
      exact R.sl v
    · exact SlQ.of q (fun u => (slOf_have (S := S.lose g.nm x)).trans slOf_lose) fun z hz => by
        rw [show (S.did y (.give g.nm x g'.nm)).ts.map Th.n = (S.lose g.nm x).ts.map Th.n from ns_addKe (S := (S.lose g.nm x).setRow g'.nm (· ++ [x])), ns_lose]
        exact hz
    · show S.many ≤ S.many + 1
      omega
  | drop h x =>
    obtain ⟨row, hr, hx⟩ := ok
    obtain ⟨g, hg, rfl, rfl⟩ := rws_in hr
    refine ⟨⟨?_, R.many, ?_, fun v => ?_⟩, (o.lose hg hx).mono (Nat.le_succ _), ?_, rfl, ?_⟩
    · show updR M.rs g.nm (woLast · x) = _
      rw [R.rs, ← rws_lose']
      rfl
    · exact R.ths.trans wds_lose.symm
    · rw [show (S.did y (.drop g.nm x)).slOf v = S.slOf v from slOf_lose]
      exact R.sl v
    · exact SlQ.of q (fun u => slOf_lose) fun z hz => by
        rw [show (S.did y (.drop g.nm x)).ts.map Th.n = S.ts.map Th.n from ns_lose]
        exact hz
    · show S.many ≤ S.many + 1
      omega
end
end Dl
namespace Dl
open PySem PySem.Spec PyProof.Rows L2
/-! ### from one state to a later one: what isn't in F stands, what is in F' is of F or new -/
structure Stp (F F' : List Addr) (μ μ' : Mu) : Prop where
  kp : ∀ b o, μ b = some o → b ∉ F → μ' b = some o
  ft : ∀ b ∈ F', b ∈ F ∨ μ b = none
theorem Same.stp {F : List Addr} {μ μ' : Mu} (h : Same F μ μ') : Stp F F μ μ' := ⟨fun b o e n => h.at n e, fun b h => .inl h⟩
theorem Stp.refl (F : List Addr) (μ : Mu) : Stp F F μ μ := ⟨fun _ _ e _ => e, fun _ h => .inl h⟩
theorem Stp.trans {F G H : List Addr} {a b c : Mu} (h : Stp F G a b) (g : Stp G H b c) : Stp F H a c := by
  refine ⟨fun x o e n => g.kp x o (h.kp x o e n) fun m => ?_, fun x m => ?_⟩
  · rcases h.ft x m with z | z
    · exact n z
    · rw [z] at e; cases e
  · rcases g.ft x m with z | z
    · exact h.ft x z
    · by_cases c : x ∈ F
      · exact .inl c
      · right
        cases e : a x with
        | none => rfl
        | some o =>
          rw [h.kp x o e c] at z
          cases z
theorem Stp.out {F F' : List Addr} {μ μ' : Mu} (h : Stp F F' μ μ') {b : Addr} {o : O} (e : μ b = some o) (n : b ∉ F) : b ∉ F' := fun m => by
  rcases h.ft b m with z | z
  · exact n z
  · rw [e] at z; cases z
theorem Sits.stp {F F' : List Addr} {μ μ' : Mu} {cs : Cells} (s : Sits μ cs) (h : Stp F F' μ μ') (d : ∀ a ∈ foot cs, a ∉ F) : Sits μ' cs := s.out fun a ha => by
  obtain ⟨o, e⟩ := s.there ha
  rw [e]
  exact h.kp a o e (d a ha)
section
variable {C : Addr} {S : SC} {M : MS} {μ μ' : Mu} {B : Nat}
theorem St.stp {F F' : List Addr} (s : St C μ S) (h : Stp F F' μ μ') (d : ∀ a ∈ foot (S.cells C), a ∉ F) : St C μ' S := ⟨s.sits.stp h d, s.hn, s.tn, s.mt⟩
/-- a model as deeds leave it -/
structure MOk (M : MS) : Prop where
  hn : (M.rs.map (·.1)).Nodup
  srt : (M.ts.map MT.n).Pairwise (· < ·)
  rows : ∀ q ∈ M.rs, ∀ x ∈ q.2, x ∈ M.ts.map MT.n
  rl : ∀ q ∈ M.rs, q.2.length ≤ 30
  hl : M.rs.length ≤ 6
  h0 : M.rs ≠ []
  tl : M.ts.length ≤ 40
  sl : ∀ x ∈ M.ts, x.sl.length ≤ 8
  sn : ∀ x ∈ M.ts, (x.sl.map (·.1)).Nodup
  sk : ∀ x ∈ M.ts, ∀ q ∈ x.sl, nameB q.1 = true ∧ q.2.val ∈ M.ts.map MT.n ∧ ∀ j, q.2.key = some j → j ∈ M.ts.map MT.n
  nm : ∀ q ∈ M.rs, nameB q.1 = true
  ns : ∀ x ∈ M.names, nameB x = true
  n0 : M.names ≠ []
  nl : M.names.length ≤ 100
  ws : ∀ x ∈ M.ts, okW x.w
  big : ∀ x ∈ M.ts, 0 ≤ x.n ∧ x.n < 100000
  m0 : 0 ≤ M.many
  m1 : M.many ≤ 100000
  lt : ∀ x ∈ M.ts, x.n < M.many
theorem MOk.tn (o : MOk M) : (M.ts.map MT.n).Nodup := o.srt.imp fun a => Int.ne_of_lt a
theorem mth_of {o : Int} (h : o ∈ M.ts.map MT.n) : ∃ x ∈ M.ts, x.n = o := List.mem_map.mp h
/-- what a model and its store have in common, apart from where they stand -/
structure Pr (M : MS) (S : SC) (B : Nat) : Prop where
  rl : Rl M S
  ok : OkN S B
  q : SlQ S
  ws : ∀ x ∈ S.ts, okW x.w
  fx : S.fx.length ≤ 100
  h0 : S.hs ≠ []
  ns : ∀ x ∈ M.names, nameB x = true
  n0 : M.names ≠ []
  nl : M.names.length ≤ 100
theorem Pr.mok (p : Pr M S B) : MOk M := by
  have ns := p.rl.ns
  have tn : (M.ts.map MT.n).Nodup := by rw [ns]; exact p.ok.tn
  have pm : ∀ x ∈ M.ts, x.sl.Perm (S.slOf x.n) := fun x hx => by
    rw [← mslOf_at tn hx]
    exact p.rl.sl x.n
  have hrs : ∀ q ∈ M.rs, ∃ g ∈ S.hs, q = (g.nm, g.row) := fun q hq => by
    rw [p.rl.rs] at hq
    obtain ⟨g, hg, e⟩ := List.mem_map.mp hq
    exact ⟨g, hg, e.symm⟩
  have hth : ∀ x ∈ M.ts, ∃ y ∈ S.ts, y.n = x.n ∧ y.w = x.w := fun x hx => by
    have : (x.n, x.w) ∈ S.wds := by rw [← p.rl.ths]; exact List.mem_map.mpr ⟨x, hx, rfl⟩
    obtain ⟨y, hy, e⟩ := List.mem_map.mp this
    exact ⟨y, hy, congrArg Prod.fst e, congrArg Prod.snd e⟩
  refine ⟨?_, by rw [ns]; exact p.ok.ok.srt, ?_, ?_, ?_, ?_, ?_, ?_, ?_, ?_, ?_, p.ns, p.n0, p.nl, ?_, ?_, by rw [p.rl.many]; exact p.ok.m0, by rw [p.rl.many]; exact p.ok.m1, ?_⟩
  · rw [p.rl.rs]
    unfold SC.rws
    rw [List.map_map]
    exact p.ok.hn
  · intro q hq x hx
    obtain ⟨g, hg, rfl⟩ := hrs q hq
    rw [ns]
    exact p.ok.ok.rows g hg x hx
  · intro q hq
    obtain ⟨g, hg, rfl⟩ := hrs q hq
    exact p.ok.rl g hg
  · rw [p.rl.rs, len_rws]
    exact p.ok.hl
  · intro e
    rw [p.rl.rs] at e
    exact p.h0 (List.map_eq_nil_iff.mp e)
  · have := congrArg List.length ns
    rw [List.length_map, List.length_map] at this
    rw [this]
    exact p.ok.tl
  · intro x hx
    rw [(pm x hx).length_eq]
    exact slOf_len p.ok _
  · intro x hx
    exact (((pm x hx).map (·.1)).nodup_iff).mpr (slOf_nodup p.ok _)
  · intro x hx q hq
    rw [ns]
    exact p.q x.n q ((pm x hx).mem_iff.mp hq)
  · intro q hq
    obtain ⟨g, hg, rfl⟩ := hrs q hq
    exact p.ok.nm g hg
  · intro x hx
    obtain ⟨y, hy, _, e⟩ := hth x hx
    rw [← e]
    exact p.ws y hy
  · intro x hx
    obtain ⟨y, hy, e, _⟩ := hth x hx
    rw [← e]
    have h1 := p.ok.ok.many y hy
    have h2 := p.ok.m1
    omega
  · intro x hx
    obtain ⟨y, hy, e, _⟩ := hth x hx
    rw [← e, p.rl.many]
    exact (p.ok.ok.many y hy).2
theorem Rm_rl (R : Rl M S) (o : OkN S B) {dd : Dd} (h : dd.Rm M.rs M.slOf M.ts.length) : dd.Rm S.rws S.slOf S.ts.length := by
  have el : M.ts.length = S.ts.length := by
    have := congrArg List.length R.ns
    rwa [List.length_map, List.length_map] at this
  have ll : ∀ u, (M.slOf u).length = (S.slOf u).length := fun u => (R.sl u).length_eq
  rw [R.rs] at h
  cases dd with
  | make h w => exact ⟨el ▸ h.1, h.2⟩
  | fill h u k r =>
    intro e
    rw [← R.get o] at e
    have := h e
    rw [ll] at this
    exact this
  | empty h u k =>
    intro e
    rw [← R.get o] at e
    exact h e
  | take h u k =>
    obtain ⟨r, e, g⟩ := h
    rw [R.get o] at e
    exact ⟨r, e, g⟩
  | give h x t => exact h
  | drop h x => exact h
theorem ws_did {y : Th} {dd : Dd} (w : ∀ x ∈ S.ts, okW x.w) (ny : NewTh S.many y dd) (ok : dd.Ok S.rws) : ∀ x ∈ (S.did y dd).ts, okW x.w := by
  have key : ∀ {S' : SC}, S'.wds = S.wds → ∀ x ∈ S'.ts, okW x.w := fun {S'} e x hx => by
    have : (x.n, x.w) ∈ S'.wds := List.mem_map.mpr ⟨x, hx, rfl⟩
    rw [e] at this
    obtain ⟨z, hz, e2⟩ := List.mem_map.mp this
    have := w z hz
    rwa [show z.w = x.w from congrArg Prod.snd e2] at this
  cases dd with
  | make h v =>
    obtain ⟨n1, n2, n3, n4⟩ := ny
    obtain ⟨_, _, hv⟩ := ok
    intro x hx
    have : (x.n, x.w) ∈ (S.did y (.make h v)).wds := List.mem_map.mpr ⟨x, hx, rfl⟩
    rw [show (S.did y (.make h v)).wds = (S.addTh y).wds from wds_have (S := S.addTh y), wds_addTh] at this
    rcases List.mem_append.mp this with m | m
    · obtain ⟨z, hz, e2⟩ := List.mem_map.mp m
      have := w z hz
      rwa [show z.w = x.w from congrArg Prod.snd e2] at this
    · rw [show x.w = y.w from congrArg Prod.snd (List.mem_singleton.mp m), n3]
      exact hv
  | fill h u k r => exact key wds_put
  | empty h u k => exact key wds_clrO
  | take h u k => exact key wds_have
  | give h x t => exact key ((wds_have (S := S.lose h x)).trans wds_lose)
  | drop h x => exact key wds_lose
theorem hs_did {y : Th} {dd : Dd} : (S.did y dd).hs.map Hd.nm = S.hs.map Hd.nm := by
  cases dd with
  | make h v => exact nms_have (S := S.addTh y)
  | fill h u k r => exact congrArg _ hs_put
  | empty h u k => exact congrArg _ hs_clrO
  | take h u k => exact nms_have
  | give h x t => exact (nms_have (S := S.lose h x)).trans nms_lose
  | drop h x => exact nms_lose
theorem fx_clrO {o : Int} {k : Str} : (S.clrO o k).fx = S.fx ∧ (S.clrO o k).t = S.t := by
  unfold SC.clrO
  cases getA (S.slOf o) k with
  | none => exact ⟨rfl, rfl⟩
  | some r => exact ⟨fx_clr, t_clr.1⟩
theorem fx_did {y : Th} {dd : Dd} : (S.did y dd).fx = S.fx ∧ (S.did y dd).t = S.t := by
  cases dd with
  | make h v => exact ⟨rfl, rfl⟩
  | fill h u k r => exact fx_put
  | empty h u k => exact fx_clrO
  | take h u k => exact ⟨rfl, rfl⟩
  | give h x t => exact ⟨rfl, rfl⟩
  | drop h x => exact ⟨rfl, rfl⟩
theorem note_names {a : Addr} {dd : Dd} : (M.note a dd).names = M.names ∧ (M.note a dd).m = M.m ∧ (M.note a dd).fl = M.fl ∧ (M.note a dd).sd = M.sd := by
  cases dd <;> exact ⟨rfl, rfl, rfl, rfl⟩
theorem Pr.next (p : Pr M S B) {dd : Dd} (ok : dd.Ok M.rs) (rm : dd.Rm M.rs M.slOf M.ts.length) {a : Addr} {y : Th} (ny : NewTh S.many y dd) (hm : S.many < 100000) :
    Pr (M.note a dd) (S.did y dd) (B + 1) ∧ toldBy M.many M.slOf dd = toldBy S.many S.slOf dd ∧ (S.did y dd).many ≤ S.many + 1 := by
  have ok' : dd.Ok S.rws := by rw [← p.rl.rs]; exact ok
  obtain ⟨h1, h2, h3, h4, h5⟩ := p.rl.next p.ok p.q ok' (Rm_rl p.rl p.ok rm) (a := a) ny hm
  refine ⟨⟨h1, h2, h3, ws_did p.ws ny ok', by rw [fx_did.1]; exact p.fx, fun e => ?_, by rw [note_names.1]; exact p.ns, by rw [note_names.1]; exact p.n0, by rw [note_names.1]; exact p.nl⟩, h4, h5⟩
  have := hs_did (S := S) (y := y) (dd := dd)
  rw [e] at this
  exact p.h0 (List.map_eq_nil_iff.mp this.symm)
end
end Dl
namespace Dl
open PySem PySem.Spec PyProof.Rows L2
/-! ### deeds as tuples: a word, a hand, and what else -/
def Dd.hand : Dd → Str
  | .make h _ => h
  | .fill h _ _ _ => h
  | .empty h _ _ => h
  | .take h _ _ => h
  | .give h _ _ => h
  | .drop h _ => h
theorem Dd.Ok.row {rs : List (Str × List Int)} {dd : Dd} (h : dd.Ok rs) : ∃ row, (dd.hand, row) ∈ rs := by
  cases dd <;> exact ⟨_, h.choose_spec.1⟩
def hL : Nat := 104
end Dl
namespace Dl
open PySem PySem.Spec PyProof.Rows L2
end Dl
namespace Dl
open PySem PySem.Spec PyProof.Rows L2
end Dl
namespace Dl
open PySem PySem.Spec PyProof.Rows L2
section
variable {F F' G : List Addr} {μ μ' : Mu}
theorem Stp.put (h : Stp F F' μ μ') {a : Addr} {o : O} (ha : a ∈ F ∨ μ a = none) : Stp F F' μ (put μ' a o) := ⟨fun b o' e n => (by
  rw [put_ne]
  · exact h.kp b o' e n
  · rintro rfl
    rcases ha with z | z
    · exact n z
    · rw [z] at e
      cases e), h.ft⟩
theorem Stp.to (h : Stp F F' μ μ') (g : ∀ b ∈ G, b ∈ F ∨ μ b = none) : Stp F G μ μ' := ⟨h.kp, g⟩
variable {M : MS} {T : D → Prop}
theorem rd_intB {b : Bool} {Q : DQ} (q : Q (.int (if b then 1 else 0)) μ) : fInt1 [.bl b] μ Q := q
end
/-! a, b, c = x, y, z -/
section
variable {B : Bs} {X : Cx}
def wPar3 (i j l : Nat) (a : WA) : WS := fun DD ρ μ => a ρ μ fun ds μ1 => ∃ d e g, ds = [d, e, g] ∧ DD.nx (((ρ.set i (some d)).set j (some e)).set l (some g)) μ1
theorem js_par3 (i j l : Nat) {x y z : Str} {a b c : Expr} {wa : WA} {px py pz pt pos : Pos} {kt k2 pt2} (ha : JA B X [a, b, c] wa) (hN : X.N.Nodup) (hc : X.calm = true := by rfl) (hi : X.N[i]? = some x := by rfl) (hj : X.N[j]? = some y := by rfl) (hl : X.N[l]? = some z := by rfl) (hij : i ≠ j := by decide) (hil : i ≠ l := by decide) (hjl : j ≠ l := by decide)
    (hx : X.env.scope.names.lookup x = some .local := by rfl) (hy : X.env.scope.names.lookup y = some .local := by rfl) (hz : X.env.scope.names.lookup z = some .local := by rfl)
    (hw : swappedStores [.Tuple [.Name x px, .Name y py, .Name z pz] kt pt] (.Tuple [a, b, c] k2 pt2) X.env = pure (some [x, y, z]) := by rfl)
    (hs : swapsWithSole [.Tuple [.Name x px, .Name y py, .Name z pz] kt pt] (.Tuple [a, b, c] k2 pt2) pos.line X.env = pure false := by rfl) :
    JS B X (.Assign [.Tuple [.Name x px, .Name y py, .Name z pz] kt pt] (.Tuple [a, b, c] k2 pt2) pos) (wPar3 i j l wa) := PS.of (ps_par3 hc hN hi hj hl hij hil hjl hx hy hz ha hw hs) fun E σ H ⟨ρ, μ, DD, rs, m, h, k⟩ =>
  ⟨ρ, μ, _, rs, m, h, fun vs H1 ds μ1 s1 m1 v1 ⟨d, e, g, eq, q⟩ => by
    subst eq
    obtain ⟨v, ws, rfl, r1, u, us, rfl, r2, t, ts, rfl, r3, e2⟩ := v1
    rw [show ts = [] from e2]
    exact ⟨v, u, t, rfl, k.nx _ H1 _ μ1 s1 ((((rs.step s1).set i r1).set j r2).set l r3) m1 q⟩⟩
end
end Dl
namespace Dl
open PySem PySem.Spec PyProof.Rows L2
/-! ### what is told of a thing -/
def Rw.P : Rw → PyData
  | .plain x => .tuple [.str "plain", .int x]
  | .weak x => .tuple [.str "weak", .int x]
  | .keyed k v => .tuple [.str "keyed", .int k, .int v]
/-! ### a store and a law's model of it, one beside the other -/
structure Wd (C : Addr) (μb μ : Mu) (M : MS) (S : SC) (B : Nat) : Prop where
  st : St C μ S
  ms : MSt μ M
  pr : Pr M S B
  sep : ∀ a ∈ foot M.cells, a ∉ foot (S.cells C)
  kp : ∀ a o, μb a = some o → μ a = some o
  fs : ∀ a ∈ foot (S.cells C), μb a = none
  fm : ∀ a ∈ foot M.cells, μb a = none
section
variable {C : Addr} {μb μ μ1 μ2 : Mu} {M M1 : MS} {S S' : SC} {B B' : Nat}
theorem Wd.next (w : Wd C μb μ M S B) (h1 : MSt μ1 M1) (s1 : Stp (foot M.cells) (foot M1.cells) μ μ1) (h2 : St C μ2 S') (s2 : Stp (foot (S.cells C)) (foot (S'.cells C)) μ1 μ2) (p : Pr M1 S' B') : Wd C μb μ2 M1 S' B' := by
  have no : ∀ a ∈ foot M1.cells, a ∉ foot (S.cells C) := fun a ha hs => by
    rcases s1.ft a ha with z | z
    · exact w.sep a z hs
    · obtain ⟨o, e⟩ := w.st.sits.there hs
      rw [z] at e
      cases e
  have k1 : ∀ a o, μb a = some o → μ1 a = some o := fun a o e => s1.kp a o (w.kp a o e) fun m => by
    rw [w.fm a m] at e
    cases e
  refine ⟨h2, h1.stp s2 no, p, fun a ha hs => ?_, fun a o e => ?_, fun a ha => ?_, fun a ha => ?_⟩
  · rcases s2.ft a hs with z | z
    · exact no a ha z
    · obtain ⟨o, e⟩ := h1.there ha
      rw [z] at e
      cases e
  · exact s2.kp a o (k1 a o e) fun m => by
      rw [w.fs a m] at e
      cases e
  · rcases s2.ft a ha with z | z
    · exact w.fs a z
    · cases e : μb a with
      | none => rfl
      | some o => rw [k1 a o e] at z; cases z
  · rcases s1.ft a ha with z | z
    · exact w.fm a z
    · cases e : μb a with
      | none => rfl
      | some o => rw [w.kp a o e] at z; cases z
theorem Wd.less (w : Wd C μb μ M S B) : Less μ μb := fun a => by
  cases e : μb a with
  | none => exact .inl rfl
  | some o => exact .inr (w.kp a o e).symm
end
end Dl
namespace Dl
open PySem PySem.Spec PyProof.Rows L2
/-! ### lists told ahead of a deed -/
theorem Rss.app {μ : Mu} : ∀ {a : List D} {p : List PyData} {b : List D} {q : List PyData}, Rss μ a p → Rss μ b q → Rss μ (a ++ b) (p ++ q)
  | _, _, _, _, .nil, h => h
  | _, _, _, _, .cons r rs, h => .cons r (Rss.app rs h)
section
variable {C : Addr} {S : SC} {M : MS} {B : Nat} {μ : Mu}
theorem Pr.init {xs : List Str} (e1 : M.rs = xs.map fun x => (x, [])) (l1 : 1 ≤ xs.length) (l6 : xs.length ≤ 6) (hx : ∀ x ∈ xs, nameB x = true) (nd : xs.Nodup) (e2 : M.ts = []) (e3 : M.many = 0) (n0 : M.names ≠ []) (nl : M.names.length ≤ 100) (ns : ∀ x ∈ M.names, nameB x = true)
    (f1 : S.ts = []) (f2 : S.many = 0) (f3 : S.fx = []) (f4 : S.hs.map Hd.nm = xs) (f5 : ∀ g ∈ S.hs, g.row = []) : Pr M S 0 := by
  have hlen : S.hs.length = xs.length := by rw [← f4, List.length_map]
  have sl0 : ∀ o, S.slOf o = [] := fun o => by unfold SC.slOf; rw [f1]; rfl
  have ml0 : ∀ o, M.slOf o = [] := fun o => by unfold MS.slOf; rw [e2]; rfl
  refine ⟨⟨?_, by rw [e3, f2], by rw [e2, SC.wds, f1]; rfl, fun o => by rw [sl0, ml0]⟩, OkN.init f1 f2 f5 (by rw [f4]; exact nd) (by omega) (fun g hg => hx g.nm (by rw [← f4]; exact List.mem_map.mpr ⟨g, hg, rfl⟩)), fun o q hq => ?_, fun x hx => ?_, by rw [f3]; exact Nat.zero_le _, fun e => ?_, ns, n0, nl⟩
  · rw [e1, ← f4, List.map_map]
    unfold SC.rws
    refine List.map_congr_left fun g hg => ?_
    show (g.nm, ([] : List Int)) = (g.nm, g.row)
    rw [f5 g hg]
  · rw [sl0] at hq
    cases hq
  · rw [f1] at hx
    cases hx
  · rw [e] at hlen
    simp at hlen
    omega
/-- where both begin -/
theorem Wd.init {μb μ1 μ2 : Mu} {l : Addr} {x0 x1 : O} (sM : MSt μ1 M) (fM : ∀ a ∈ foot M.cells, μb a = none) (smM : Same (foot M.cells) μb μ1) (hl : μ1 l = none) (ht : put μ1 l x0 S.t = none) (s2 : St C μ2 S) (fr : ∀ a ∈ foot (S.cells C), a ≠ S.t → put (put μ1 l x0) S.t x1 a = none) (sm : Same (foot (S.cells C)) (put (put μ1 l x0) S.t x1) μ2) (p : Pr M S 0) (o : O) : Wd C μb (put μ2 l o) M S 0 ∧ μ2 l = some x0 := by
  have ⟨tl, ht1⟩ := no_put ht
  have lF : l ∉ foot (S.cells C) := fun m => by
    have h := fr l m (Ne.symm tl)
    rw [put_ne (Ne.symm tl), put_same] at h
    cases h
  have up : ∀ a o, μ1 a = some o → a ∉ foot (S.cells C) ∧ put μ2 l o a = put μ2 l o a ∧ μ2 a = some o ∧ a ≠ l := fun a o e => by
    have h1 : a ≠ l := ne_no e hl
    have h2 : a ≠ S.t := ne_no e ht1
    have h3 : put (put μ1 l x0) S.t x1 a = some o := by rw [put_ne h2, put_ne h1]; exact e
    have h4 : a ∉ foot (S.cells C) := fun m => by
      have h := fr a m h2
      rw [h3] at h
      cases h
    exact ⟨h4, rfl, sm.at h4 h3, h1⟩
  have k1 : ∀ a o, μb a = some o → μ1 a = some o := fun a o e => smM.at (fun m => by rw [fM a m] at e; cases e) e
  refine ⟨⟨s2.off lF, ?_, p, ?_, ?_, ?_, fM⟩, ?_⟩
  · refine ⟨fun q hq => ?_, sM.nd⟩
    obtain ⟨_, _, h3, h4⟩ := up q.1 q.2 (sM.at_ q hq)
    rw [put_ne h4]
    exact h3
  · intro a ha
    obtain ⟨o, e⟩ := sM.there ha
    exact (up a o e).1
  · intro a o' e
    obtain ⟨_, _, h3, h4⟩ := up a o' (k1 a o' e)
    rw [put_ne h4]
    exact h3
  · intro a ha
    cases e : μb a with
    | none => rfl
    | some o' => exact ((up a o' (k1 a o' e)).1 ha).elim
  · refine sm.at lF ?_
    rw [put_ne (Ne.symm tl), put_same]
end
end Dl
namespace Dl
open PySem PySem.Spec PyProof.Rows L2
/-! ### signs in texts, texts cut, dicts shown -/
section
variable {B : Bs} {X : Cx} {o : Expr} {wo : WE}
def wSlS (o : WE) (lo hi : WO) : WE := fun ρ μ Q => o ρ μ fun d μ1 => lo ρ μ1 fun l μ2 => hi ρ μ2 fun h μ3 => ∃ z, d = .str z ∧ z.length ≤ sizeLine ∧ Q (.str (cutS z l h)) μ3
end
/-- a text of few signs, none of them too far -/
def Tx (n : Nat) (x : Str) : Prop := x.length ≤ n ∧ ∀ c ∈ x.cps.toList, c < 16 ^ 8
theorem Tx.mono {n m : Nat} {x : Str} (h : Tx n x) (l : n ≤ m) : Tx m x := ⟨Nat.le_trans h.1 l, h.2⟩
theorem Tx.one {z : Str} {n c : Nat} (h : Tx n z) (hc : c ∈ z.cps.toList) : Tx 1 ⟨#[c]⟩ := ⟨Nat.le_refl _, fun d hd => by
  have e : d = c := by simpa using hd
  rw [e]
  exact h.2 c hc⟩
/-! a dict of whole numbers, shown -/
end Dl
namespace Dl
open PySem PySem.Spec PyProof.Rows L2
/-! ### x in [y] by the text's own __eq__ -/
end Dl
namespace Dl
open PySem PySem.Spec PyProof.Rows L2
end Dl
namespace Dl
open PySem PySem.Spec PyProof.Rows L2
/-! ### lists of pairs alike, tables with what they hold -/
end Dl
namespace Dl
open PySem PySem.Spec PyProof.Rows L2
/-! ### own == and != within a comprehension: the written part named by hand -/
end Dl
namespace Dl
open PySem PySem.Spec PyProof.Rows L2
/-! ### Base.__init__(self, ..): a base class's __init__, read off the class -/
end Dl
namespace Dl
open PySem PySem.Spec PyProof.Rows L2
/-! ### sorted(set(xs)), xs a list of ints -/
end Dl
namespace Dl
open PySem PySem.Spec PyProof.Rows L2
variable {B : Bs}
/-- sorted(set(xs)) -/
def wSortSet (m : Bool) (we : WE) : WE := fun ρ μ Q => we ρ μ fun d μ1 => ∃ ns : List Int, Ls μ1 d (ns.map .int) ∧ ns.length < 60 ∧ ∀ out : List Int, out.Pairwise (· < ·) → (∀ k, k ∈ out ↔ k ∈ ns) → New m (out.map .int) μ1 Q
end Dl
namespace Dl
open PySem PySem.Spec PyProof.Rows L2
/-! ### max(xs, default=c), xs a list of ints -/
end Dl
namespace Dl
open PySem PySem.Spec PyProof.Rows L2
variable {B : Bs}
def wMaxDf (we wc : WE) : WE := fun ρ μ Q => we ρ μ fun d μ1 => wc ρ μ1 fun c μ2 => ∃ (ns : List Int) (j : Int), Lr μ2 d (ns.map .int) ∧ c = .int j ∧ (ns = [] → Q (.int j) μ2) ∧ ∀ m, m ∈ ns → (∀ y, y ∈ ns → y ≤ m) → Q (.int m) μ2
/-- max(xs), min(xs) of a list of ints -/
def fMaxL : FN := fun ds μ Q => ∃ (d : D) (ns : List Int), ds = [d] ∧ Lr μ d (ns.map .int) ∧ ns ≠ [] ∧ ∀ m, m ∈ ns → (∀ y, y ∈ ns → y ≤ m) → Q (.int m) μ
theorem cd_maxL {X : Cx} (hc : X.calm = true) : CallR X (.builtin "max") (upFN fMaxL) := CallR.of (cr_max hc) fun xs H Q ⟨ds, μ, QD, v, m, ⟨d, ns, e, h1, h0, h2⟩, k⟩ => by
  subst e
  obtain ⟨v1, vs, rfl, r1, e⟩ := v
  rw [show vs = [] from e]
  obtain ⟨a, ys, rfl, h3, h4⟩ := h1.to m r1
  rw [h4.ints] at h3
  exact ⟨a, ns, rfl, .inl h3, List.length_pos_iff.mpr h0, fun j a b => k _ _ (lft_mk (d := .int _) m rfl (h2 j a b))⟩
end Dl
namespace Dl
open PySem PySem.Spec PyProof.Rows L2
/-! ### a sea: a store that has depths, too -/
def SC.setX (S : SC) (xc : Cells) : SC := { S with xc := xc }
/-- what a sea has beyond a store: its depths at da -/
structure SeaS (S : SC) (da : Addr) (dps : Tb Int) : Prop where
  fx : S.fx = [(("deep" : Str), D.at da)]
  xc : S.xc = [(da, O.dK (enc kI dps))]
  ns : dps.map (·.1) = S.ts.map Th.n
def SC.pre (C : Addr) (S : SC) : Cells := (S.t, .ins C S.flds) :: (S.r, .dK S.dr) :: (S.f, .dK S.df) :: (S.l, .dK S.dl) :: (S.k, .dK S.dk) ::
  (S.hs.map (fun h => (h.ra, O.lst (h.row.map .int))) ++ (S.ts.map (fun x => (x.sa, O.dK (slK x.sl))) ++ S.ts.map (fun x => (x.ka, O.lst (x.ke.map hoD)))))
section
variable {C : Addr} {μ : Mu} {S : SC} {da : Addr} {dps : Tb Int}
theorem cells_pre : S.cells C = S.pre C ++ S.xc := by
  unfold SC.cells SC.pre
  simp only [List.cons_append, List.append_assoc]
theorem sits_last {pre : Cells} {a : Addr} {o : O} (s : Sits μ (pre ++ [(a, o)])) (o' : O) : Sits (put μ a o') (pre ++ [(a, o')]) := by
  have nd := s.nd
  rw [List.map_append, List.nodup_append] at nd
  refine ⟨fun q hq => ?_, by rw [List.map_append]; exact List.nodup_append.mpr nd⟩
  rcases List.mem_append.mp hq with m | m
  · rw [put_ne (nd.2.2 q.1 (List.mem_map.mpr ⟨q, m, rfl⟩) a (by simp))]
    exact s.at_ q (List.mem_append.mpr (.inl m))
  · cases List.mem_singleton.mp m
    exact put_same
theorem St.setX (s : St C μ S) {o : O} (e : S.xc = [(da, o)]) (o' : O) : St C (put μ da o') (S.setX [(da, o')]) := by
  have h := s.sits
  rw [cells_pre, e] at h
  exact ⟨by rw [cells_pre]; exact sits_last h o', s.hn, s.tn, s.mt⟩
theorem SeaS.in_ (e : SeaS S da dps) : da ∈ foot (S.cells C) := by
  unfold foot
  rw [cells_pre, e.xc, List.map_append]
  exact List.mem_append.mpr (.inr (by simp))
theorem SeaS.nd (e : SeaS S da dps) (tn : (S.ts.map Th.n).Nodup) : Nd dps := by
  unfold Nd
  rw [e.ns]
  exact tn
end
/-! ### the deepest of a hold -/
end Dl
namespace Dl
open PySem PySem.Spec PySem.Calls PyProof.Rows L2
/-! ### sorted(xs), xs a list of tuples, empty ones among them -/
end Dl
namespace Dl
open PySem PySem.Spec PyProof.Rows L2
end Dl
namespace Dl
open PySem PySem.Spec PyProof.Rows L2
/-! ### holds gathered by thing: a dict of lists that grow -/
structure Hx where
  n : Int
  a : Addr
  hs : List (List Int)
def hxC (d : Addr) (hx : List Hx) : Cells := (d, .dK (hx.map fun x => (.inl x.n, .at x.a))) :: hx.map fun x => (x.a, O.lst (x.hs.map hoD))
def hxAdd (hx : List Hx) (p : Int × List Int) : List Hx := hx.map fun x => if x.n = p.1 then { x with hs := x.hs ++ [p.2] } else x
def hxAdds (hx : List Hx) (ps : List (Int × List Int)) : List Hx := ps.foldl hxAdd hx
def holdsFor (ps : List (Int × List Int)) (n : Int) : List (List Int) := (ps.filter fun p => decide (p.1 = n)).map (·.2)
section
variable {hx : List Hx} {μ : Mu} {d : Addr}
theorem hxAdd_map {β : Type} {g : Hx → β} (h : ∀ x l, g { x with hs := l } = g x) (p : Int × List Int) : (hxAdd hx p).map g = hx.map g := by
  unfold hxAdd
  rw [List.map_map]
  refine List.map_congr_left fun x _ => ?_
  show g (if x.n = p.1 then _ else x) = g x
  split
  · exact h _ _
  · rfl
theorem hxAdds_map {β : Type} {g : Hx → β} (h : ∀ x l, g { x with hs := l } = g x) : ∀ (ps : List (Int × List Int)) (hx : List Hx), (hxAdds hx ps).map g = hx.map g
  | [], _ => rfl
  | p :: ps, hx => (hxAdds_map h ps (hxAdd hx p)).trans (hxAdd_map h p)
theorem hxAdds_app (ps qs : List (Int × List Int)) : hxAdds hx (ps ++ qs) = hxAdds (hxAdds hx ps) qs := List.foldl_append
theorem hxAdds_eq : ∀ (ps : List (Int × List Int)) (hx : List Hx), hxAdds hx ps = hx.map fun x => { x with hs := x.hs ++ holdsFor ps x.n }
  | [], hx => by
    show hx = _
    conv => lhs; rw [← List.map_id hx]
    refine List.map_congr_left fun x _ => ?_
    show x = _
    unfold holdsFor
    simp
  | p :: ps, hx => by
    show hxAdds (hxAdd hx p) ps = _
    rw [hxAdds_eq ps]
    unfold hxAdd
    rw [List.map_map]
    refine List.map_congr_left fun x _ => ?_
    by_cases c : x.n = p.1
    · have e : holdsFor (p :: ps) x.n = p.2 :: holdsFor ps x.n := by
        unfold holdsFor
        rw [List.filter_cons, if_pos (by simpa using c.symm)]
        rfl
      rw [e]
      show ({ (if x.n = p.1 then { x with hs := x.hs ++ [p.2] } else x : Hx) with hs := (if x.n = p.1 then { x with hs := x.hs ++ [p.2] } else x : Hx).hs ++ holdsFor ps (if x.n = p.1 then { x with hs := x.hs ++ [p.2] } else x : Hx).n } : Hx) = _
      rw [if_pos c]
      simp
    · have e : holdsFor (p :: ps) x.n = holdsFor ps x.n := by
        unfold holdsFor
        rw [List.filter_cons, if_neg (by simpa using fun z => c z.symm)]
      rw [e]
      show ({ (if x.n = p.1 then { x with hs := x.hs ++ [p.2] } else x : Hx) with hs := (if x.n = p.1 then { x with hs := x.hs ++ [p.2] } else x : Hx).hs ++ holdsFor ps (if x.n = p.1 then { x with hs := x.hs ++ [p.2] } else x : Hx).n } : Hx) = _
      rw [if_neg c]
theorem hx_foot (hx : List Hx) : foot (hxC d hx) = d :: hx.map Hx.a := by
  unfold foot hxC
  rw [List.map_cons, List.map_map]
  rfl
theorem hx_step (s : Sits μ (hxC d hx)) (nd : (hx.map Hx.n).Nodup) {x : Hx} (m : x ∈ hx) (h : List Int) : Sits (put μ x.a (.lst ((x.hs ++ [h]).map hoD))) (hxC d (hxAdd hx (x.n, h))) := by
  have nda := s.nd
  have e : (hxC d hx).map (·.1) = d :: hx.map Hx.a := hx_foot hx
  rw [e, List.nodup_cons] at nda
  refine s.upd ?_ fun q hq => ?_
  · rw [e, show (hxC d (hxAdd hx (x.n, h))).map (·.1) = d :: (hxAdd hx (x.n, h)).map Hx.a from hx_foot _, hxAdd_map fun _ _ => rfl]
  · unfold hxC at hq
    rcases List.mem_cons.mp hq with rfl | hq
    · right
      refine ⟨?_, fun z => nda.1 (List.mem_map.mpr ⟨x, m, z.symm⟩)⟩
      rw [hxAdd_map (g := fun x : Hx => ((.inl x.n : Key), D.at x.a)) fun _ _ => rfl]
      exact List.mem_cons_self
    · obtain ⟨y, hy, rfl⟩ := List.mem_map.mp hq
      obtain ⟨z, hz, e2⟩ := List.mem_map.mp hy
      by_cases c : z.n = x.n
      · have : z = x := nd_eq nd hz m c
        subst this
        rw [if_pos rfl] at e2
        subst e2
        exact .inl rfl
      · rw [if_neg c] at e2
        subst e2
        refine .inr ⟨List.mem_cons_of_mem _ (List.mem_map.mpr ⟨z, hz, rfl⟩), fun (e3 : z.a = x.a) => c ?_⟩
        rw [nd_eq nda.2 hz m e3]
theorem hx_at {n : Int} (h : n ∈ hx.map Hx.n) : ∃ x ∈ hx, x.n = n := List.mem_map.mp h
end
/-! ### a law's own holds -/
def MS.hps (M : MS) : List (Int × List Int) := (M.rs.flatMap fun q => q.2.map fun n => (n, [])) ++ (M.ts.flatMap fun o => o.sl.flatMap fun q => q.2.holds o.n)
/-! ### a list of pairs of a number and a fresh list, while it grows -/
structure Laying (μ μ' : Mu) (L : Addr) (hx : List Hx) (ns : List Int) : Prop where
  nm : hx.map Hx.n = ns
  hs : ∀ g ∈ hx, g.hs = []
  nd : (hx.map Hx.a).Nodup
  new : ∀ g ∈ hx, μ g.a = none ∧ g.a ≠ L
  at_ : ∀ g ∈ hx, μ' g.a = some (.lst [])
  lst : μ' L = some (.lst (hx.map fun x => .tup [.int x.n, .at x.a]))
  oth : ∀ a, a ≠ L → a ∉ hx.map Hx.a → μ' a = μ a
theorem Laying.zero {μ : Mu} {L : Addr} : Laying μ (put μ L (.lst [])) L [] [] := ⟨rfl, (fun _ h => by cases h), List.nodup_nil, (fun _ h => by cases h), (fun _ h => by cases h), put_same, fun a h _ => put_ne h⟩
section
variable {μ μ' : Mu} {L : Addr} {hx : List Hx} {ns : List Int}
theorem Laying.step (w : Laying μ μ' L hx ns) (x : Int) {p : Addr} (hp : μ' p = none) :
    put μ' p (.lst []) L = some (.lst (hx.map fun x => .tup [.int x.n, .at x.a])) ∧ Laying μ (put (put μ' p (.lst [])) L (.lst ((hx.map fun x => .tup [.int x.n, .at x.a]) ++ [.tup [.int x, .at p]]))) L (hx ++ [⟨x, p, []⟩]) (ns ++ [x]) := by
  have pL : p ≠ L := fun e => by
    rw [e, w.lst] at hp
    cases hp
  have pn : p ∉ hx.map Hx.a := fun m => by
    obtain ⟨g, mg, e⟩ := List.mem_map.mp m
    rw [← e, w.at_ g mg] at hp
    cases hp
  have pm : μ p = none := by rw [← w.oth p pL pn]; exact hp
  refine ⟨by rw [put_ne (Ne.symm pL)]; exact w.lst, ?_, ?_, ?_, ?_, ?_, ?_, ?_⟩
  · rw [List.map_append, w.nm]
    rfl
  · intro g mg
    rcases List.mem_append.mp mg with m | m
    · exact w.hs g m
    · cases List.mem_singleton.mp m
      rfl
  · rw [List.map_append, List.nodup_append]
    refine ⟨w.nd, by simp, fun a ha b hb => ?_⟩
    cases List.mem_singleton.mp hb
    exact fun e => pn ((show a = p from e) ▸ ha)
  · intro g mg
    rcases List.mem_append.mp mg with m | m
    · exact w.new g m
    · cases List.mem_singleton.mp m
      exact ⟨pm, pL⟩
  · intro g mg
    rcases List.mem_append.mp mg with m | m
    · rw [put_ne (w.new g m).2, put_ne fun (e : g.a = p) => pn (e ▸ List.mem_map.mpr ⟨g, m, rfl⟩)]
      exact w.at_ g m
    · cases List.mem_singleton.mp m
      rw [put_ne pL, put_same]
  · rw [put_same, List.map_append]
    rfl
  · intro a h1 h2
    rw [List.map_append, List.mem_append, not_or] at h2
    rw [put_ne h1, put_ne fun (e : a = p) => h2.2 (List.mem_singleton.mpr e)]
    exact w.oth a h1 h2.1
theorem Laying.keep (w : Laying μ μ' L hx ns) (hL : μ L = none) : ∀ a o, μ a = some o → μ' a = some o := fun a o h => by
  rw [w.oth a (ne_no h hL) fun m => ?_]
  · exact h
  · obtain ⟨g, mg, rfl⟩ := List.mem_map.mp m
    rw [(w.new g mg).1] at h
    cases h
end
/-! ### holds sorted -/
def sortHo (hs : List (List Int)) : List (List Int) := hs.mergeSort fun a b => PySem.W.dataLe false pyD (hoD a) (hoD b)
end Dl
namespace Dl
open PySem PySem.Spec PyProof.Rows L2
variable {B : Bs}
/-! ### a dict walked by a statement, locked meanwhile -/
/-! ### holds gathered -/
structure Gath (d : Addr) (hx : List Hx) (μ : Mu) (ps : List (Int × List Int)) (μ' : Mu) : Prop where
  s : Sits μ' (hxC d (hxAdds hx ps))
  sm : Same (foot (hxC d hx)) μ μ'
section
variable {d : Addr} {hx : List Hx} {μ μ' : Mu} {ps : List (Int × List Int)}
theorem gath_foot : foot (hxC d (hxAdds hx ps)) = foot (hxC d hx) := by
  rw [hx_foot, hx_foot, hxAdds_map fun _ _ => rfl]
theorem gath_ns : (hxAdds hx ps).map Hx.n = hx.map Hx.n := hxAdds_map (fun _ _ => rfl) _ _
theorem Gath.zero (s : Sits μ (hxC d hx)) : Gath d hx μ [] μ := ⟨s, Same.refl _ _⟩
theorem Gath.step (g : Gath d hx μ ps μ') (nd : (hx.map Hx.n).Nodup) {n : Int} (hn : n ∈ hx.map Hx.n) (h : List Int) : ∃ x ∈ hxAdds hx ps, x.n = n ∧ Gath d hx μ (ps ++ [(n, h)]) (put μ' x.a (.lst ((x.hs ++ [h]).map hoD))) := by
  have hn' : n ∈ (hxAdds hx ps).map Hx.n := by rw [gath_ns]; exact hn
  obtain ⟨x, hx', rfl⟩ := hx_at hn'
  refine ⟨x, hx', rfl, ?_, g.sm.trans (.put ?_)⟩
  · rw [hxAdds_app]
    exact hx_step g.s (by rw [gath_ns]; exact nd) hx' h
  · rw [← gath_foot (ps := ps), hx_foot]
    exact List.mem_cons_of_mem _ (List.mem_map.mpr ⟨x, hx', rfl⟩)
/-- with something else put otherwise -/
theorem Gath.off (g : Gath d hx μ ps μ') {a : Addr} {o : O} (h : a ∉ foot (hxC d hx)) : Gath d hx (put μ a o) ps (put μ' a o) :=
  ⟨g.s.put (by rw [gath_foot]; exact h), fun b hb => by
    by_cases c : b = a
    · rw [c, put_same, put_same]
    · rw [put_ne c, put_ne c]
      exact g.sm b hb⟩
theorem Gath.len (g : Gath d hx μ ps μ') {x : Hx} (m : x ∈ hxAdds hx ps) (h0 : ∀ x ∈ hx, x.hs = []) : x.hs.length ≤ ps.length := by
  rw [hxAdds_eq] at m
  obtain ⟨y, hy, rfl⟩ := List.mem_map.mp m
  show (y.hs ++ holdsFor ps y.n).length ≤ _
  rw [h0 y hy, List.nil_append]
  unfold holdsFor
  rw [List.length_map]
  exact List.length_filter_le _ _
end
/-! ### depths -/
def MS.dps (M : MS) : Tb Int := M.ts.map fun x => (x.n, x.dp)
section
variable {M : MS} {S : SC} {b : Nat} {C : Addr} {μ : Mu}
theorem dps_ns : M.dps.map (·.1) = M.ts.map MT.n := by
  unfold MS.dps
  rw [List.map_map]
  rfl
theorem dps_add {x : MT} (h : x.n ∉ M.ts.map MT.n) : putI M.dps x.n x.dp = (M.addT x).dps := by
  unfold putI
  rw [if_neg]
  · unfold MS.addT MS.dps
    rw [List.map_append]
    rfl
  · intro e
    obtain ⟨q, hq, e⟩ := List.any_eq_true.mp e
    refine h ?_
    rw [← dps_ns]
    exact List.mem_map.mpr ⟨q, hq, by simpa using e⟩
theorem OkS.setX (o : OkS S) {xc : Cells} : OkS (S.setX xc) := ⟨o.many, o.srt, o.rows, o.refs, o.sln, o.kept⟩
theorem OkN.setX (o : OkN S b) {xc : Cells} : OkN (S.setX xc) b := ⟨o.ok.setX, o.hn, o.kl, o.rl, o.sl, o.tl, o.hl, o.nm, o.m0, o.m1⟩
theorem Pr.setX (p : Pr M S b) {xc : Cells} : Pr M (S.setX xc) b := ⟨⟨p.rl.rs, p.rl.many, p.rl.ths, p.rl.sl⟩, p.ok.setX, p.q, p.ws, p.fx, p.h0, p.ns, p.n0, p.nl⟩
def dpsAfter (dps : Tb Int) (many : Int) : Dd → Tb Int
  | .make _ _ => putI dps many 1
  | _ => dps
/-- a deed in a sea -/
def SC.didS (S : SC) (y : Th) (dd : Dd) (da : Addr) (dps : Tb Int) : SC := (S.did y dd).setX [(da, .dK (enc kI (dpsAfter dps S.many dd)))]
end
/-! ### a sea and a law's model of it -/
structure WdS (C : Addr) (μb μ : Mu) (M : MS) (S : SC) (da : Addr) (b : Nat) (e : Int) : Prop where
  w : Wd C μb μ M S b
  sea : SeaS S da M.dps
  d1 : ∀ x ∈ M.ts, 1 ≤ x.dp
  d2 : ∀ x ∈ M.ts, x.dp ≤ e
section
variable {C : Addr} {μb μ μ1 μ2 : Mu} {M M1 : MS} {S S' : SC} {da : Addr} {b b' : Nat} {e : Int}
theorem WdS.mono (w : WdS C μb μ M S da b e) {e' : Int} (h : e ≤ e') : WdS C μb μ M S da b e' := ⟨w.w, w.sea, w.d1, fun x m => Int.le_trans (w.d2 x m) h⟩
theorem WdS.tn (w : WdS C μb μ M S da b e) : (M.ts.map MT.n).Nodup := w.w.pr.mok.tn
theorem dps_note {a : Addr} {dd : Dd} (hm : M.many ∉ M.ts.map MT.n) : (M.note a dd).dps = dpsAfter M.dps M.many dd := by
  cases dd with
  | make h w => exact (dps_add (x := ⟨M.many, a, [], w, 1⟩) hm).symm
  | fill h o k r => exact modT_mapM (g := fun x : MT => (x.n, x.dp)) fun _ => rfl
  | empty h o k => exact modT_mapM (g := fun x : MT => (x.n, x.dp)) fun _ => rfl
  | take h o k => rfl
  | give h x t => rfl
  | drop h x => rfl
theorem dp_note {a : Addr} {dd : Dd} {x : MT} (m : x ∈ (M.note a dd).ts) : x.dp = 1 ∨ ∃ y ∈ M.ts, y.dp = x.dp := by
  cases dd with
  | make h w =>
    rcases List.mem_append.mp (show x ∈ M.ts ++ [⟨M.many, a, [], w, 1⟩] from m) with z | z
    · exact .inr ⟨x, z, rfl⟩
    · cases List.mem_singleton.mp z
      exact .inl rfl
  | fill h o k r =>
    obtain ⟨y, hy, rfl⟩ := List.mem_map.mp m
    exact .inr ⟨y, hy, by split <;> rfl⟩
  | empty h o k =>
    obtain ⟨y, hy, rfl⟩ := List.mem_map.mp m
    exact .inr ⟨y, hy, by split <;> rfl⟩
  | take h o k => exact .inr ⟨x, m, rfl⟩
  | give h y t => exact .inr ⟨x, m, rfl⟩
  | drop h y => exact .inr ⟨x, m, rfl⟩
/-- a deed is done in both -/
theorem WdS.did (w : WdS C μb μ M S da b e) (he : 1 ≤ e) {dd : Dd} (ok : dd.Ok M.rs) (rm : dd.Rm M.rs M.slOf M.ts.length) {a : Addr} {y : Th} (ny : NewTh S.many y dd) (hm : S.many < 100000)
    (s1 : MSt μ1 (M.note a dd)) (t1 : Stp (foot M.cells) (foot (M.note a dd).cells) μ μ1) (s2 : St C μ2 (S.didS y dd da M.dps)) (t2 : Stp (foot (S.cells C)) (foot ((S.didS y dd da M.dps).cells C)) μ1 μ2) :
    WdS C μb μ2 (M.note a dd) (S.didS y dd da M.dps) da (b + 1) e ∧ toldBy M.many M.slOf dd = toldBy S.many S.slOf dd ∧ (S.didS y dd da M.dps).many ≤ S.many + 1 ∧ (S.didS y dd da M.dps).t = S.t := by
  obtain ⟨p2, et, em⟩ := w.w.pr.next ok rm (a := a) ny hm
  have mno : M.many ∉ M.ts.map MT.n := fun m => by
    obtain ⟨x, hx, z⟩ := mth_of m
    have := w.w.pr.mok.lt x hx
    omega
  refine ⟨⟨w.w.next s1 t1 s2 t2 p2.setX, ⟨fx_did.1.trans w.sea.fx, ?_, ?_⟩, fun x m => ?_, fun x m => ?_⟩, et, em, fx_did.2⟩
  · rw [dps_note mno, w.w.pr.rl.many]
    rfl
  · rw [dps_ns, p2.rl.ns]
    rfl
  · rcases dp_note m with z | ⟨y, hy, z⟩
    · omega
    · have := w.d1 y hy
      omega
  · rcases dp_note m with z | ⟨y, hy, z⟩
    · omega
    · have := w.d2 y hy
      omega
end
end Dl
namespace Dl
open PySem PySem.Spec PyProof.Rows L2
/-! ### a law's own holds, told -/
def MS.hs (M : MS) (n : Int) : List (List Int) := sortHo (holdsFor M.hps n)
end Dl
namespace Dl
open PySem PySem.Spec PyProof.Rows L2
end Dl
namespace Dl
open PySem PySem.Spec PyProof.Rows L2
/-! ### deeds of the right kinds, had or not -/
end Dl
namespace Dl
open PySem PySem.Spec PyProof.Rows L2
section
variable {C : Addr} {μb μb' μ μ1 μ2 : Mu} {M M1 : MS} {S S' : SC} {da : Addr} {b b' : Nat} {e : Int}
theorem Pr.mono (p : Pr M S b) (h : b ≤ b') : Pr M S b' := ⟨p.rl, p.ok.mono h, p.q, p.ws, p.fx, p.h0, p.ns, p.n0, p.nl⟩
theorem Wd.mono (w : Wd C μb μ M S b) (h : b ≤ b') : Wd C μb μ M S b' := ⟨w.st, w.ms, w.pr.mono h, w.sep, w.kp, w.fs, w.fm⟩
/-- told from an earlier start -/
theorem Wd.base (w : Wd C μb' μ M S b) (h : ∀ a o, μb a = some o → μb' a = some o) : Wd C μb μ M S b := by
  have no : ∀ a, μb' a = none → μb a = none := fun a z => by
    cases c : μb a with
    | none => rfl
    | some o => rw [h a o c] at z; cases z
  exact ⟨w.st, w.ms, w.pr, w.sep, fun a o c => w.kp a o (h a o c), fun a m => no a (w.fs a m), fun a m => no a (w.fm a m)⟩
/-- something new beside -/
theorem Wd.new (w : Wd C μb μ M S b) {a : Addr} {o : O} (h : μ a = none) : Wd C μb (put μ a o) M S b :=
  ⟨w.st.new h, w.ms.sits' h o, w.pr, w.sep, fun x u c => by rw [put_ne (ne_no (w.kp x u c) h)]; exact w.kp x u c, w.fs, w.fm⟩
theorem WdS.base (w : WdS C μb' μ M S da b e) (h : ∀ a o, μb a = some o → μb' a = some o) : WdS C μb μ M S da b e := ⟨w.w.base h, w.sea, w.d1, w.d2⟩
theorem WdS.new (w : WdS C μb μ M S da b e) {a : Addr} {o : O} (h : μ a = none) : WdS C μb (put μ a o) M S da b e := ⟨w.w.new h, w.sea, w.d1, w.d2⟩
theorem WdS.init (w : Wd C μb μ M S 0) (h : SeaS S da []) (e2 : M.ts = []) : WdS C μb μ M S da 0 1 :=
  ⟨w, by rw [show M.dps = [] from by unfold MS.dps; rw [e2]; rfl]; exact h, fun x m => (by rw [e2] at m; cases m), fun x m => (by rw [e2] at m; cases m)⟩
end
end Dl
namespace Dl
open PySem PySem.Spec PyProof.Rows L2
variable {B : Bs}
/-! ### d[k] = .. as one of several targets -/
def f3Dic : F3 := fun d e v μ Q => PutD μ d e v Q
/-! ### other models: what they keep under which name is told by fl -/
structure Fl (fl : MS → List (Key × D)) : Prop where
  rows : ∀ M, atD (fl M) (.inr "rows") = some (.at M.mr)
  slots : ∀ M, atD (fl M) (.inr "slots") = some (.at M.ms)
  made : ∀ M, atD (fl M) (.inr "made") = some (.int M.many)
  put : ∀ M j, putD (fl M) (.inr "made") (.int j) = fl { M with many := j }
  len : ∀ M, (fl M).length ≤ 1000
  dep : ∀ M M', M.mr = M'.mr → M.ms = M'.ms → M.many = M'.many → M.names = M'.names → M.rs.map (·.1) = M'.rs.map (·.1) → fl M = fl M'
def gells (fl : MS → List (Key × D)) (M : MS) : Cells := (M.m, .dK (fl M)) :: (M.mr, .dK (M.rs.map rwD)) :: (M.ms, .dK M.dS) :: M.ts.map fun x => (x.a, O.dK (slK x.sl))
abbrev GSt (fl : MS → List (Key × D)) (μ : Mu) (M : MS) : Prop := Sits μ (gells fl M)
section
variable {fl : MS → List (Key × D)} {μ μ1 : Mu} {M : MS} {T : D → Prop} {R : Option D → Prop}
theorem gfoot_eq : foot (gells fl M) = M.m :: M.mr :: M.ms :: M.ts.map MT.a := by
  simp only [foot, gells, List.map_cons, List.map_map]
  rfl
theorem GSt.m_ (s : GSt fl μ M) : μ M.m = some (.dK (fl M)) := s.at_ (M.m, _) (by simp [gells])
theorem GSt.mr_ (s : GSt fl μ M) : μ M.mr = some (.dK (M.rs.map rwD)) := s.at_ (M.mr, _) (by simp [gells])
theorem GSt.ms_ (s : GSt fl μ M) : μ M.ms = some (.dK M.dS) := s.at_ (M.ms, _) (by simp [gells])
theorem GSt.sl_ (s : GSt fl μ M) {x : MT} (h : x ∈ M.ts) : μ x.a = some (.dK (slK x.sl)) := s.at_ (x.a, _) (by
  simp only [gells, List.mem_cons, List.mem_map]
  exact .inr (.inr (.inr ⟨x, h, rfl⟩)))
theorem GSt.nd_ (s : GSt fl μ M) : (M.m :: M.mr :: M.ms :: M.ts.map MT.a).Nodup := by
  have := s.nd
  rw [show (gells fl M).map (·.1) = foot (gells fl M) from rfl, gfoot_eq] at this
  exact this
theorem GSt.updRow (s : GSt fl μ M) (F : Fl fl) {h : Str} {f : List Int → List Int} : GSt fl (put μ M.mr (.dK ((updR M.rs h f).map rwD))) (M.updRow h f) := by
  have nd := GSt.nd_ s
  simp only [List.nodup_cons, List.mem_cons, not_or] at nd
  have ef : fl (M.updRow h f) = fl M := F.dep _ _ rfl rfl rfl rfl updR_names
  refine s.upd (by show foot _ = foot _; rw [gfoot_eq, gfoot_eq]; rfl) fun q hq => ?_
  unfold gells at hq
  rw [ef] at hq
  simp only [List.mem_cons, List.mem_map] at hq
  rcases hq with rfl | rfl | rfl | ⟨x, hx, rfl⟩
  · exact .inr ⟨List.mem_cons_self, nd.1.1⟩
  · exact .inl rfl
  · exact .inr ⟨by unfold gells; simp only [List.mem_cons]; exact .inr (.inr (.inl rfl)), fun e => nd.2.1.1 e.symm⟩
  · refine .inr ⟨?_, fun e => nd.2.1.2 (by rw [← e]; exact List.mem_map.mpr ⟨x, hx, rfl⟩)⟩
    simp only [gells, List.mem_cons, List.mem_map]
    exact .inr (.inr (.inr ⟨x, hx, rfl⟩))
theorem GSt.addT (s : GSt fl μ M) {x : MT} (hx : μ x.a = none) (oth : ∀ b, b ≠ M.m → b ≠ M.ms → b ≠ x.a → μ1 b = μ b) (e1 : μ1 M.m = some (.dK (fl (M.addT x)))) (e2 : μ1 M.ms = some (.dK (M.addT x).dS)) (e5 : μ1 x.a = some (.dK (slK x.sl))) : GSt fl μ1 (M.addT x) := by
  have nd := GSt.nd_ s
  have f1 := s.fresh hx
  rw [gfoot_eq] at f1
  have p : (foot (gells fl (M.addT x))).Perm (x.a :: foot (gells fl M)) := by
    rw [gfoot_eq, gfoot_eq]
    simp only [MS.addT, List.map_append, List.map_cons, List.map_nil]
    refine List.perm_iff_count.mpr fun a => ?_
    simp only [List.count_cons, List.count_append, List.count_nil]
    omega
  refine ⟨fun q hq => ?_, ?_⟩
  · simp only [gells, List.mem_cons, List.mem_map] at hq
    simp only [List.nodup_cons, List.mem_cons, not_or] at nd f1
    rcases hq with rfl | rfl | rfl | ⟨y, hy, rfl⟩
    · exact e1
    · show μ1 M.mr = _
      rw [oth M.mr (Ne.symm nd.1.1) nd.2.1.1 (Ne.symm f1.2.1)]
      exact GSt.mr_ s
    · exact e2
    · rcases List.mem_append.mp (show y ∈ M.ts ++ [x] from hy) with hy | hy
      · have iy : y.a ∈ M.ts.map MT.a := List.mem_map.mpr ⟨y, hy, rfl⟩
        show μ1 y.a = _
        rw [oth y.a (fun e => nd.1.2.2 (e ▸ iy)) (fun e => nd.2.2.1 (e ▸ iy)) fun e => f1.2.2.2 (e ▸ iy)]
        exact GSt.sl_ s hy
      · cases List.mem_singleton.mp hy
        exact e5
  · show (foot (gells fl (M.addT x))).Nodup
    rw [p.nodup_iff, List.nodup_cons, gfoot_eq]
    exact ⟨f1, nd⟩
end
/-! ### a store and such a model -/
structure WdG (C : Addr) (fl : MS → List (Key × D)) (μb μ : Mu) (M : MS) (S : SC) (b : Nat) : Prop where
  st : St C μ S
  ms : GSt fl μ M
  pr : Pr M S b
  sep : ∀ a ∈ foot (gells fl M), a ∉ foot (S.cells C)
  kp : ∀ a o, μb a = some o → μ a = some o
  fs : ∀ a ∈ foot (S.cells C), μb a = none
  fm : ∀ a ∈ foot (gells fl M), μb a = none
section
variable {C : Addr} {fl : MS → List (Key × D)} {μb μb' μ μ1 μ2 : Mu} {M M1 : MS} {S S' : SC} {b b' : Nat}
theorem WdG.next (w : WdG C fl μb μ M S b) (h1 : GSt fl μ1 M1) (s1 : Stp (foot (gells fl M)) (foot (gells fl M1)) μ μ1) (h2 : St C μ2 S') (s2 : Stp (foot (S.cells C)) (foot (S'.cells C)) μ1 μ2) (p : Pr M1 S' b') : WdG C fl μb μ2 M1 S' b' := by
  have no : ∀ a ∈ foot (gells fl M1), a ∉ foot (S.cells C) := fun a ha hs => by
    rcases s1.ft a ha with z | z
    · exact w.sep a z hs
    · obtain ⟨o, e⟩ := w.st.sits.there hs
      rw [z] at e
      cases e
  have k1 : ∀ a o, μb a = some o → μ1 a = some o := fun a o e => s1.kp a o (w.kp a o e) fun m => by
    rw [w.fm a m] at e
    cases e
  refine ⟨h2, h1.stp s2 no, p, fun a ha hs => ?_, fun a o e => ?_, fun a ha => ?_, fun a ha => ?_⟩
  · rcases s2.ft a hs with z | z
    · exact no a ha z
    · obtain ⟨o, e⟩ := h1.there ha
      rw [z] at e
      cases e
  · exact s2.kp a o (k1 a o e) fun m => by
      rw [w.fs a m] at e
      cases e
  · rcases s2.ft a ha with z | z
    · exact w.fs a z
    · cases e : μb a with
      | none => rfl
      | some o => rw [k1 a o e] at z; cases z
  · rcases s1.ft a ha with z | z
    · exact w.fm a z
    · cases e : μb a with
      | none => rfl
      | some o => rw [w.kp a o e] at z; cases z
theorem WdG.less (w : WdG C fl μb μ M S b) : Less μ μb := fun a => by
  cases e : μb a with
  | none => exact .inl rfl
  | some o => exact .inr (w.kp a o e).symm
theorem WdG.mono (w : WdG C fl μb μ M S b) (h : b ≤ b') : WdG C fl μb μ M S b' := ⟨w.st, w.ms, w.pr.mono h, w.sep, w.kp, w.fs, w.fm⟩
theorem WdG.base (w : WdG C fl μb' μ M S b) (h : ∀ a o, μb a = some o → μb' a = some o) : WdG C fl μb μ M S b := by
  have no : ∀ a, μb' a = none → μb a = none := fun a z => by
    cases c : μb a with
    | none => rfl
    | some o => rw [h a o c] at z; cases z
  exact ⟨w.st, w.ms, w.pr, w.sep, fun a o c => w.kp a o (h a o c), fun a m => no a (w.fs a m), fun a m => no a (w.fm a m)⟩
theorem WdG.new (w : WdG C fl μb μ M S b) {a : Addr} {o : O} (h : μ a = none) : WdG C fl μb (put μ a o) M S b :=
  ⟨w.st.new h, w.ms.put (w.ms.fresh h), w.pr, w.sep, fun x u c => by rw [put_ne (ne_no (w.kp x u c) h)]; exact w.kp x u c, w.fs, w.fm⟩
end
end Dl
namespace Dl
open PySem PySem.Spec PyProof.Rows L2
variable {B : Bs}
/-! ### xs.count(y) -/
/-! ### a dict walked that may be locked already -/
/-! ### what can be come to -/
inductive CanT (ns : List Int) (hs : Int → List (List Int)) : Int → Prop
  | mk {n : Int} {h : List Int} : n ∈ ns → h ∈ hs n → (∀ m, m ∈ h → CanT ns hs m) → CanT ns hs n
/-! ### with the holds by which things were come to -/
def fstH (hs : Int → List (List Int)) (K : List (Int × List Int)) (n : Int) : Option (List Int) := (hs n).find? fun h => h.all fun m => decide (m ∈ K.map (·.1))
def stepK (hs : Int → List (List Int)) (K : List (Int × List Int)) (n : Int) : List (Int × List Int) := match fstH hs K n with
  | some h => if n ∈ K.map (·.1) then K else K ++ [(n, h)]
  | none => K
end Dl
namespace Dl
open PySem PySem.Spec PyProof.Rows L2
/-! ### a law's own holds of one thing, gathered row by row -/
end Dl
namespace Dl
open PySem PySem.Spec PyProof.Rows L2
/-! ### sorting data with unlike keys: one order alone -/
/-! ### a number in a tuple of numbers -/
/-! ### a store's holds, told -/
end Dl
namespace Dl
open PySem PySem.Spec PyProof.Rows L2
/-! ### ways as they are found -/
structure WayK (hs : Int → List (List Int)) (ns : List Int) (K : List (Int × List Int)) : Prop where
  nd : (K.map (·.1)).Nodup
  in_ : ∀ q ∈ K, q.1 ∈ ns
  row : ∀ (i : Nat) (q : Int × List Int), K[i]? = some q → q.2 ∈ hs q.1 ∧ ∀ m ∈ q.2, m ∈ (K.take i).map (·.1)
  sound : ∀ x ∈ K.map (·.1), CanT ns hs x
section
variable {hs : Int → List (List Int)} {ns : List Int} {K : List (Int × List Int)}
theorem WayK.zero : WayK hs ns [] := ⟨List.nodup_nil, (fun _ h => by cases h), (fun _ _ h => by cases h), fun _ h => by cases h⟩
theorem WayK.len (w : WayK hs ns K) : (K.map (·.1)).length ≤ ns.length := len_sub w.nd fun x h => by
  obtain ⟨q, hq, rfl⟩ := List.mem_map.mp h
  exact w.in_ q hq
theorem WayK.step (w : WayK hs ns K) {n : Int} (hn : n ∈ ns) : WayK hs ns (stepK hs K n) := by
  unfold stepK
  cases e : fstH hs K n with
  | none => exact w
  | some h =>
    have h1 : h ∈ hs n := List.mem_of_find?_eq_some e
    have e' : (hs n).find? (fun h => h.all fun m => decide (m ∈ K.map (fun q : Int × List Int => q.1))) = some h := e
    have e2 : (h.all fun m => decide (m ∈ K.map (fun q : Int × List Int => q.1))) = true := by
      have := List.find?_some e'
      exact this
    have h2 : ∀ m ∈ h, m ∈ K.map (·.1) := fun m hm => of_decide_eq_true (List.all_eq_true.mp e2 m hm)
    by_cases c : n ∈ K.map (·.1)
    · show WayK hs ns (if n ∈ K.map (·.1) then K else K ++ [(n, h)])
      rw [if_pos c]
      exact w
    · show WayK hs ns (if n ∈ K.map (·.1) then K else K ++ [(n, h)])
      rw [if_neg c]
      refine ⟨?_, fun q hq => ?_, fun i q hq => ?_, fun x hx => ?_⟩
      · rw [List.map_append, List.nodup_append]
        exact ⟨w.nd, by simp, fun a ha b hb z => c (by cases List.mem_singleton.mp hb; exact (show a = n from z) ▸ ha)⟩
      · rcases List.mem_append.mp hq with hq | hq
        · exact w.in_ q hq
        · cases List.mem_singleton.mp hq
          exact hn
      · by_cases z : i < K.length
        · rw [List.getElem?_append_left z] at hq
          rw [List.take_append_of_le_length (by omega)]
          exact w.row i q hq
        · rw [List.getElem?_append_right (by omega)] at hq
          have e0 : i - K.length = 0 := by
            have := (List.getElem?_eq_some_iff.mp hq).1
            simp at this
            exact this
          rw [e0] at hq
          cases hq
          have ei : i = K.length := by omega
          subst ei
          rw [List.take_append_of_le_length (Nat.le_refl _), List.take_length]
          exact ⟨h1, h2⟩
      · rw [List.map_append] at hx
        rcases List.mem_append.mp hx with hx | hx
        · exact w.sound x hx
        · cases List.mem_singleton.mp hx
          exact .mk hn h1 fun m hm => w.sound m (h2 m hm)
end
end Dl
namespace Dl
open PySem PySem.Spec PyProof.Rows L2
/-! ### a model that is only read, its slots walked perhaps -/
structure GRd (fl : MS → List (Key × D)) (μ : Mu) (M : MS) : Prop where
  m_ : μ M.m = some (.dK (fl M))
  mr_ : μ M.mr = some (.dK (M.rs.map rwD))
  ms_ : μ M.ms = some (.dK M.dS) ∨ ∃ o ks, μ M.ms = some (.fz o ks M.dS)
  sl_ : ∀ x ∈ M.ts, μ x.a = some (.dK (slK x.sl))
  nd : (M.m :: M.mr :: M.ms :: M.ts.map MT.a).Nodup
section
variable {fl : MS → List (Key × D)} {μ μ' : Mu} {M : MS} {C : Addr} {S : SC}
theorem GRd.ext (s : GRd fl μ M) (h : ∀ a o, μ a = some o → μ' a = some o) : GRd fl μ' M := ⟨h _ _ s.m_, h _ _ s.mr_, s.ms_.imp (fun e => h _ _ e) fun ⟨o, ks, e⟩ => ⟨o, ks, h _ _ e⟩, fun x m => h _ _ (s.sl_ x m), s.nd⟩
theorem GRd.new (s : GRd fl μ M) {a : Addr} {o : O} (h : μ a = none) : GRd fl (put μ a o) M := s.ext fun b u e => by rw [put_ne (ne_no e h)]; exact e
theorem GRd.row {T : D → Prop} (s : GRd fl μ M) (hn : (M.rs.map (·.1)).Nodup) {h : Str} {row : List Int} (m : (h, row) ∈ M.rs) (q : T (.lst (row.map .int))) : ∃ v, GetD μ (.at M.mr) (.str h) (some v) ∧ T v :=
  ⟨_, .inl ⟨M.rs.map rwD, .inr h, .inl s.mr_, rfl, (at_in (κ := Key) (f := fun q : Str × List Int => Sum.inr q.1) (g := fun q => D.lst (q.2.map .int)) (nodup_inr hn) m).symm⟩, q⟩
theorem GRd.at_ {T : D → Prop} {k : Str} {v : D} (s : GRd fl μ M) (e : atD (fl M) (.inr k) = some v) (q : T v) : ∃ v, GetD μ (.at M.m) (.str k) (some v) ∧ T v := ⟨_, .inl ⟨fl M, .inr k, .inl s.m_, rfl, e.symm⟩, q⟩
/-- where a store and such a model begin -/
theorem WdG.init {μb μ1 μ2 : Mu} {x1 : O} (sM : GSt fl μ1 M) (fM : ∀ a ∈ foot (gells fl M), μb a = none) (smM : Same (foot (gells fl M)) μb μ1) (ht : μ1 S.t = none) (s2 : St C μ2 S) (fr : ∀ a ∈ foot (S.cells C), a ≠ S.t → put μ1 S.t x1 a = none) (sm : Same (foot (S.cells C)) (put μ1 S.t x1) μ2) (p : Pr M S 0) : WdG C fl μb μ2 M S 0 := by
  have up : ∀ a o, μ1 a = some o → a ∉ foot (S.cells C) ∧ μ2 a = some o := fun a o e => by
    have h2 : a ≠ S.t := ne_no e ht
    have h3 : put μ1 S.t x1 a = some o := by rw [put_ne h2]; exact e
    have h4 : a ∉ foot (S.cells C) := fun m => by
      have h := fr a m h2
      rw [h3] at h
      cases h
    exact ⟨h4, sm.at h4 h3⟩
  have k1 : ∀ a o, μb a = some o → μ1 a = some o := fun a o e => smM.at (fun m => by rw [fM a m] at e; cases e) e
  refine ⟨s2, ⟨fun q hq => (up q.1 q.2 (sM.at_ q hq)).2, sM.nd⟩, p, fun a ha => ?_, fun a o e => (up a o (k1 a o e)).2, fun a ha => ?_, fM⟩
  · obtain ⟨o, e⟩ := sM.there ha
    exact (up a o e).1
  · cases e : μb a with
    | none => rfl
    | some o => exact ((up a o (k1 a o e)).1 ha).elim
end
/-! ### small numbers shown -/
theorem Shw.sm {i : Int} (h : i.natAbs < 2 ^ 20) : Shw (.int i) 21 1 := by
  have hlg : i.natAbs.log2 < 20 := by
    by_cases h0 : i.natAbs = 0
    · rw [h0]; decide
    · exact (Nat.log2_lt h0).mpr h
  have h2 := Shw.int (i := i) (by omega)
  refine ⟨h2.sh, h2.ls, ?_, h2.dp⟩
  simp only [PyData.weight]
  split <;> omega
def smN (i : Int) : Prop := 0 ≤ i ∧ i < 100000
theorem Shw.smN {i : Int} (h : smN i) : Shw (.int i) 21 1 := .sm (by unfold Dl.smN at h; omega)
theorem Shw.ho {h : List Int} (hl : h.length ≤ 2) (hn : ∀ n ∈ h, Dl.smN n) : Shw (hoP h) 44 2 := by
  have := Shw.tuple (n := 21) (k := 1) (xs := h.map .int) fun x hx => by
    obtain ⟨n, m, rfl⟩ := List.mem_map.mp hx
    exact .smN (hn n m)
  rw [List.length_map] at this
  exact this.mono (by omega) (Nat.le_refl _)
def hpP (p : Int × List Int) : PyData := .tuple [.int p.1, hoP p.2]
theorem Shw.hp {p : Int × List Int} (h1 : Dl.smN p.1) (hl : p.2.length ≤ 2) (hn : ∀ n ∈ p.2, Dl.smN n) : Shw (hpP p) 90 3 :=
  (Shw.tuple (n := 44) (k := 2) (xs := [.int p.1, hoP p.2]) (by
    intro x hx
    simp only [List.mem_cons, List.not_mem_nil, or_false] at hx
    rcases hx with rfl | rfl
    · exact (Shw.smN h1).mono (by decide) (by decide)
    · exact .ho hl hn)).mono (by simp) (by decide)
theorem Shw.hps {l : List (Int × List Int)} {n : Nat} (h : ∀ p ∈ l, Dl.smN p.1 ∧ p.2.length ≤ 2 ∧ ∀ m ∈ p.2, Dl.smN m) (hl : l.length ≤ n) : Shw (.list (l.map hpP)) (91 * n) 4 := by
  have := Shw.list (n := 90) (k := 3) (xs := l.map hpP) fun x hx => by
    obtain ⟨g, m, rfl⟩ := List.mem_map.mp hx
    exact .hp (h g m).1 (h g m).2.1 (h g m).2.2
  rw [List.length_map] at this
  exact this.mono (Nat.mul_le_mul (by omega) hl) (Nat.le_refl _)
/-! ### how many holds there are at all -/
end Dl
namespace Dl
open PySem PySem.Spec PyProof.Rows L2
end Dl
namespace Dl
open PySem PySem.Spec PyProof.Rows L2
end Dl
namespace Dl
open PySem PySem.Spec PyProof.Rows L2
variable {B : Bs}
/-! ### is True, is not True -/
/-! ### len(set(xs)), xs unlike ints -/
def wLenSet (we : WE) : WE := fun ρ μ Q => we ρ μ fun d μ1 => ∃ ns : List Int, Ls μ1 d (ns.map .int) ∧ ns.Nodup ∧ ns.length ≤ 4000 ∧ Q (.int (ns.length : Nat)) μ1
/-! ### what is left when holds without a holder are struck -/
end Dl
namespace Dl
open PySem PySem.Spec PyProof.Rows L2
theorem WdG.sub {C : Addr} {fl : MS → List (Key × D)} {μb μ μ' : Mu} {M : MS} {S : SC} {b : Nat} (w : WdG C fl μb μ M S b) (l : Less μ' μ) : WdG C fl μb μ' M S b := by
  refine ⟨w.st.less l, w.ms.less l, w.pr, w.sep, fun x u c => ?_, w.fs, w.fm⟩
  have h := w.kp x u c
  rcases l x with z | z
  · rw [z] at h
    cases h
  · rw [← z]
    exact h
end Dl
namespace Dl
open PySem PySem.Spec PyProof.Rows L2
/-! ### one step into what a text asks -/
end Dl
namespace Dl
open PySem PySem.Spec PyProof.Rows L2
variable {B : Bs}
/-! ### list(d.items()) -/
def wItemsL (a : WE) : WE := fun ρ μ Q => a ρ μ fun d μ1 => ∃ p kvs, d = .at p ∧ μ1 p = some (.dK kvs) ∧ Q (.lst (kvs.map fun q => .tup [Dk q.1, q.2])) μ1
/-! ### for .. in reversed(xs), xs a list -/
def wItRev (a : WE) : WI := fun ρ μ Q => a ρ μ fun d μ1 => ∃ ds, Lr μ1 d ds ∧ Q ds.reverse (fun μ => Lr μ d ds) μ1
end Dl
namespace Dl
open PySem PySem.Spec PyProof.Rows L2
variable {B : Bs}
/-! ### d.update(d2) -/
def wDUpd (a b : WE) : WE := fun ρ μ Q => a ρ μ fun e μ1 => (∃ p kvs, e = .at p ∧ μ1 p = some (.dK kvs)) ∧ b ρ μ1 fun f μ2 => ∃ p kvs r more, e = .at p ∧ μ2 p = some (.dK kvs) ∧ f = .at r ∧ μ2 r = some (.dK more) ∧ p ≠ r ∧ kvs.length + more.length ≤ 1000000 ∧ Q .non (put μ2 p (.dK (mergeD kvs more)))
end Dl
namespace Dl
open PySem PySem.Spec PyProof.Rows L2
/-! ### what is known in the end, told by a computation -/
/-! ### ways -/
/-- rows each of which may stand behind what is known -/
def Wy (hs : Int → List (List Int)) (ns : List Int) : List Int → List (Int × List Int) → Prop
  | _, [] => True
  | P, p :: G => p.1 ∈ ns ∧ p.1 ∉ P ∧ p.2 ∈ hs p.1 ∧ (∀ m ∈ p.2, m ∈ P) ∧ Wy hs ns (P ++ [p.1]) G
def mergeI (W h : List Int) : List Int := h.foldl (fun W n => if n ∈ W then W else W ++ [n]) W
def mergeU (W h : List Int) : List Int := mergeI W (mergeI [] h)
def wayS (a : List Int × List (Int × List Int)) (p : Int × List Int) : List Int × List (Int × List Int) := if p.1 ∈ a.1 then (mergeU a.1 p.2, a.2 ++ [p]) else a
theorem mem_mergeI : ∀ (h : List Int) {W : List Int} {x : Int}, x ∈ mergeI W h ↔ x ∈ W ∨ x ∈ h
  | [], W, x => by simp [mergeI]
  | n :: h, W, x => by
    show x ∈ mergeI (if n ∈ W then W else W ++ [n]) h ↔ _
    rw [mem_mergeI h, List.mem_cons]
    split
    · rename_i c
      constructor
      · rintro (z | z)
        · exact .inl z
        · exact .inr (.inr z)
      · rintro (z | rfl | z)
        · exact .inl z
        · exact .inl c
        · exact .inr z
    · rw [List.mem_append, List.mem_singleton, or_assoc]
theorem mem_mergeU {W h : List Int} {x : Int} : x ∈ mergeU W h ↔ x ∈ W ∨ x ∈ h := by
  unfold mergeU
  rw [mem_mergeI, mem_mergeI]
  simp
section
variable {hs : Int → List (List Int)} {ns : List Int}
theorem Wy.drop_ : ∀ {G : List (Int × List Int)} {P : List Int} {Q : List Int} {x : Int}, Wy hs ns (P ++ x :: Q) G → (∀ r ∈ G, x ∉ r.2) → Wy hs ns (P ++ Q) G
  | [], _, _, _, _, _ => trivial
  | p :: G, P, Q, x, ⟨a, b, c, d, e⟩, h => by
    refine ⟨a, fun m => b ?_, c, fun m hm => ?_, ?_⟩
    · rcases List.mem_append.mp m with m | m
      · exact List.mem_append_left _ m
      · exact List.mem_append_right _ (List.mem_cons_of_mem _ m)
    · have nx : m ≠ x := fun z => h p List.mem_cons_self (z ▸ hm)
      rcases List.mem_append.mp (d m hm) with z | z
      · exact List.mem_append_left _ z
      · rcases List.mem_cons.mp z with z | z
        · exact absurd z nx
        · exact List.mem_append_right _ z
    · have e' : Wy hs ns (P ++ x :: (Q ++ [p.1])) G := by
        have : P ++ x :: (Q ++ [p.1]) = P ++ x :: Q ++ [p.1] := by simp
        rw [this]
        exact e
      have := Wy.drop_ e' fun r hr => h r (List.mem_cons_of_mem _ hr)
      rw [← List.append_assoc] at this
      exact this
/-- what holds behind each row -/
structure WyI (hs : Int → List (List Int)) (ns : List Int) (t : Int) (K1 : List (Int × List Int)) (a : List Int × List (Int × List Int)) : Prop where
  way : Wy hs ns (K1.map (·.1)) a.2.reverse
  wan : ∀ r ∈ a.2, ∀ m ∈ r.2, m ∈ a.1
  fst : a.2 = [] ∧ a.1 = [t] ∨ ∃ r F, a.2 = r :: F ∧ r.1 = t
theorem WyI.step {t : Int} {K1 : List (Int × List Int)} {p : Int × List Int} {a : List Int × List (Int × List Int)} (w : WayK hs ns (K1 ++ [p])) (h : WyI hs ns t (K1 ++ [p]) a) : WyI hs ns t K1 (wayS a p) := by
  have rw0 := w.row K1.length p (by simp)
  have hp2 : ∀ m ∈ p.2, m ∈ K1.map (·.1) := fun m hm => by
    have := rw0.2 m hm
    rw [List.take_left] at this
    exact this
  have nd := w.nd
  rw [List.map_append, List.nodup_append] at nd
  have hp1 : p.1 ∉ K1.map (·.1) := fun m => nd.2.2 p.1 m p.1 (by simp) rfl
  have hw := h.way
  rw [List.map_append] at hw
  unfold wayS
  by_cases c : p.1 ∈ a.1
  · rw [if_pos c]
    refine ⟨?_, fun r hr m hm => ?_, ?_⟩
    · show Wy hs ns (K1.map (·.1)) (a.2 ++ [p]).reverse
      rw [List.reverse_append]
      exact ⟨w.in_ p (by simp), hp1, rw0.1, hp2, hw⟩
    · show m ∈ mergeU a.1 p.2
      rw [mem_mergeU]
      rcases List.mem_append.mp hr with hr | hr
      · exact .inl (h.wan r hr m hm)
      · cases List.mem_singleton.mp hr
        exact .inr hm
    · right
      rcases h.fst with ⟨e1, e2⟩ | ⟨r, F, e1, e2⟩
      · rw [e2] at c
        exact ⟨p, [], by show a.2 ++ [p] = _; rw [e1]; rfl, List.mem_singleton.mp c⟩
      · exact ⟨r, F ++ [p], by show a.2 ++ [p] = _; rw [e1]; rfl, e2⟩
  · rw [if_neg c]
    refine ⟨?_, h.wan, h.fst⟩
    have hw' : Wy hs ns (K1.map (·.1) ++ p.1 :: []) a.2.reverse := hw
    have := Wy.drop_ hw' fun r hr z => c (h.wan r (List.mem_reverse.mp hr) _ z)
    rw [List.append_nil] at this
    exact this
theorem WayK.pre {K1 K2 : List (Int × List Int)} (w : WayK hs ns (K1 ++ K2)) : WayK hs ns K1 := by
  have nd := w.nd
  rw [List.map_append, List.nodup_append] at nd
  refine ⟨nd.1, fun q hq => w.in_ q (List.mem_append_left _ hq), fun i q hq => ?_, fun x hx => w.sound x (by rw [List.map_append]; exact List.mem_append_left _ hx)⟩
  have hi := (List.getElem?_eq_some_iff.mp hq).1
  have := w.row i q (by rw [List.getElem?_append_left hi]; exact hq)
  rw [List.take_append_of_le_length (by omega)] at this
  exact this
theorem WyI.all {t : Int} : ∀ (K2 K1 : List (Int × List Int)) (a : List Int × List (Int × List Int)), WayK hs ns (K1 ++ K2.reverse) → WyI hs ns t (K1 ++ K2.reverse) a → WyI hs ns t K1 (K2.foldl wayS a)
  | [], K1, a, _, h => by
    rw [List.reverse_nil, List.append_nil] at h
    exact h
  | p :: K2, K1, a, w, h => by
    rw [List.reverse_cons, ← List.append_assoc] at w h
    rw [List.foldl_cons]
    exact WyI.all K2 K1 (wayS a p) w.pre (h.step w)
end
end Dl
namespace Dl
open PySem PySem.Spec PyProof.Rows L2
/-! ### a hold among holds -/
theorem depth_hos (l : List (List Int)) (h : List Int) : min (PyData.depthAll (l.map hoP)) (hoP h).depth ≤ 60 := by
  have h0 : (hoP h).depth ≤ 60 := by
    have := depthAll_flat (f := PyData.int) (fun _ => rfl) h
    show PyData.depthAll _ + 1 ≤ 60
    omega
  omega
theorem any_ho (h : List Int) : ∀ l : List (List Int), (l.map hoP).any (fun z => PyData.eqv z (hoP h)) = decide (h ∈ l)
  | [] => rfl
  | y :: ys => by
    rw [List.map_cons, List.any_cons, any_ho h ys, eqv_ho]
    by_cases c : y = h
    · simp [c]
    · have c' : ¬ h = y := fun z => c z.symm
      simp [c, c']
theorem rd_inHos {μ : Mu} {e : D} {l : List (List Int)} {h : List Int} {Q : DQ} {n : Bool} (s : Ls μ e (l.map hoD)) (q : Q (.bl (if n then !decide (h ∈ l) else decide (h ∈ l))) μ) : fIn n (hoD h) e μ Q := by
  refine ⟨hoP h, l.map hoP, rs_ho h, .inl (s.rs (Rss.map fun x _ => rs_ho x)), depth_hos l h, ?_⟩
  rw [any_ho]
  exact q
/-! ### dicts of things wanted -/
/-! ### two stores, each with its model -/
def cutF (C : Addr) (fl : MS → List (Key × D)) (M : MS) (S : SC) : List Addr := foot (gells fl M) ++ foot (S.cells C)
def cut (μ : Mu) (F : List Addr) : Mu := fun a => if a ∈ F then none else μ a
theorem cut_no {μ : Mu} {F : List Addr} {a : Addr} (h : a ∈ F) : cut μ F a = none := if_pos h
theorem cut_at {μ : Mu} {F : List Addr} {a : Addr} (h : a ∉ F) : cut μ F a = μ a := if_neg h
structure Two (C : Addr) (fl : MS → List (Key × D)) (μb μ : Mu) (M : MS) (S : SC) (N : MS) (T : SC) (b c : Nat) : Prop where
  w : WdG C fl μb μ M S b
  v : WdG C fl μb μ N T c
  sep : ∀ a ∈ cutF C fl M S, a ∉ cutF C fl N T
section
variable {C : Addr} {fl : MS → List (Key × D)} {μb μ μ' : Mu} {M M' N : MS} {S S' T : SC} {b b' c : Nat}
theorem Two.symm (t : Two C fl μb μ M S N T b c) : Two C fl μb μ N T M S c b := ⟨t.v, t.w, fun a h h2 => t.sep a h2 h⟩
/-- the other may stand at any state that keeps its cells -/
theorem Two.base (t : Two C fl μb μ M S N T b c) : WdG C fl (cut μ (cutF C fl M S)) μ M S b :=
  ⟨t.w.st, t.w.ms, t.w.pr, t.w.sep, fun a o e => by
    unfold cut at e
    split at e
    · cases e
    · exact e, fun a m => cut_no (List.mem_append_right _ m), fun a m => cut_no (List.mem_append_left _ m)⟩
theorem Two.keep (t : Two C fl μb μ M S N T b c) {a : Addr} (h : a ∉ cutF C fl M S) {o : O} (e : μ a = some o) : cut μ (cutF C fl M S) a = some o := by rw [cut_at h, e]
theorem Two.pot (t : Two C fl μb μ M S N T b c) {a : Addr} {o : O} (e : μb a = some o) : cut μ (cutF C fl M S) a = some o := by
  refine t.keep (fun m => ?_) (t.w.kp a o e)
  rcases List.mem_append.mp m with m | m
  · rw [t.w.fm a m] at e
    cases e
  · rw [t.w.fs a m] at e
    cases e
theorem Two.next (t : Two C fl μb μ M S N T b c) (w : WdG C fl (cut μ (cutF C fl M S)) μ' M' S' b') : Two C fl μb μ' M' S' N T b' c := by
  have keepN : ∀ a ∈ cutF C fl N T, ∀ o, μ a = some o → cut μ (cutF C fl M S) a = some o := fun a m o e => t.keep (fun h => t.sep a h m) e
  have back : ∀ a o, μb a = some o → cut μ (cutF C fl M S) a = some o := fun a o e => t.pot e
  have no : ∀ a ∈ cutF C fl M' S', cut μ (cutF C fl M S) a = none := fun a m => by
    rcases List.mem_append.mp m with m | m
    · exact w.fm a m
    · exact w.fs a m
  have nb : ∀ a, cut μ (cutF C fl M S) a = none → μb a = none := fun a z => by
    cases e : μb a with
    | none => rfl
    | some o => rw [back a o e] at z; cases z
  have there : ∀ a ∈ cutF C fl N T, ∃ o, μ a = some o := fun a m => by
    rcases List.mem_append.mp m with m | m
    · exact t.v.ms.there m
    · exact t.v.st.sits.there m
  refine ⟨w.base back, ⟨?_, ?_, t.v.pr, t.v.sep, fun a o e => w.kp a o (back a o e), t.v.fs, t.v.fm⟩, fun a m m2 => ?_⟩
  · exact ⟨⟨fun q hq => w.kp _ _ (keepN q.1 (List.mem_append_right _ (List.mem_map.mpr ⟨q, hq, rfl⟩)) _ (t.v.st.sits.at_ q hq)), t.v.st.sits.nd⟩, t.v.st.hn, t.v.st.tn, t.v.st.mt⟩
  · exact ⟨fun q hq => w.kp _ _ (keepN q.1 (List.mem_append_left _ (List.mem_map.mpr ⟨q, hq, rfl⟩)) _ (t.v.ms.at_ q hq)), t.v.ms.nd⟩
  · obtain ⟨o, e⟩ := there a m2
    have := keepN a m2 o e
    rw [no a m] at this
    cases this
end
end Dl
namespace Dl
open PySem PySem.Spec PyProof.Rows L2
section
variable {hs : Int → List (List Int)} {ns : List Int}
theorem Wy.at_ : ∀ {R : List (Int × List Int)} {P : List Int} {i : Nat} {p : Int × List Int}, Wy hs ns P R → R[i]? = some p → p.1 ∈ ns ∧ p.1 ∉ P ++ (R.take i).map (·.1) ∧ p.2 ∈ hs p.1 ∧ ∀ m ∈ p.2, m ∈ P ++ (R.take i).map (·.1)
  | r :: R, P, 0, p, w, e => by
    cases e
    rw [List.take_zero, List.map_nil, List.append_nil]
    exact ⟨w.1, w.2.1, w.2.2.1, w.2.2.2.1⟩
  | r :: R, P, i + 1, p, w, e => by
    have := Wy.at_ w.2.2.2.2 (i := i) (p := p) (by simpa using e)
    rw [List.take_succ_cons, List.map_cons]
    rw [List.append_assoc] at this
    exact this
end
end Dl
namespace Dl
open PySem PySem.Spec PyProof.Rows L2
theorem WdG.ext {C : Addr} {fl : MS → List (Key × D)} {μb μ μ' : Mu} {M : MS} {S : SC} {b : Nat} (w : WdG C fl μb μ M S b) (k : ∀ a o, μ a = some o → μ' a = some o) : WdG C fl μb μ' M S b :=
  ⟨⟨⟨fun q hq => k _ _ (w.st.sits.at_ q hq), w.st.sits.nd⟩, w.st.hn, w.st.tn, w.st.mt⟩, ⟨fun q hq => k _ _ (w.ms.at_ q hq), w.ms.nd⟩, w.pr, w.sep, fun a o e => k a o (w.kp a o e), w.fs, w.fm⟩
theorem Two.init {C : Addr} {fl : MS → List (Key × D)} {μb μ1 μ2 : Mu} {M N : MS} {S T : SC} {b c : Nat} (w : WdG C fl μb μ1 M S b) (v : WdG C fl μ1 μ2 N T c) : Two C fl μb μ2 M S N T b c := by
  refine ⟨w.ext v.kp, v.base w.kp, fun a m m2 => ?_⟩
  obtain ⟨o, e⟩ : ∃ o, μ1 a = some o := by
    rcases List.mem_append.mp m with m | m
    · exact w.ms.there m
    · exact w.st.sits.there m
  have : μ1 a = none := by
    rcases List.mem_append.mp m2 with m | m
    · exact v.fm a m
    · exact v.fs a m
  rw [this] at e
  cases e
end Dl
namespace Dl
open PySem PySem.Spec PyProof.Rows L2
end Dl
namespace Dl
open PySem PySem.Spec PyProof.Rows L2
end Dl
namespace Dl
open PySem PySem.Spec PyProof.Rows L2
theorem Two.mono {C : Addr} {fl : MS → List (Key × D)} {μb μ : Mu} {M N : MS} {S T : SC} {b c b' c' : Nat} (t : Two C fl μb μ M S N T b c) (hb : b ≤ b') (hc : c ≤ c') : Two C fl μb μ M S N T b' c' := ⟨t.w.mono hb, t.v.mono hc, t.sep⟩
end Dl
namespace Dl
open PySem PySem.Spec PyProof.Rows L2
/-! ### an own class of exceptions over a built-in one, with an __init__ of the text -/
structure ExL (K : Frg) (C : Addr) (newId : String) (tl : List Value) : Prop where
  cls : ∃ nm q N bs bm sn sub ab col dd k0 k1 k2 k3 k5, K.lookup C = some (excClassObj nm q C N bs bm true sn sub ab col dd k0 k1 k2 k3 k5 newId) ∧ PySem.W.excTail tl bm = true
  sa : PySem.W.findIn K (.ref C) "__setattr__" = some (some (.builtin "object.__setattr__"))
  exC : PySem.W.subIn K (.ref C) (.type "BaseException") = some true
  tyC : PySem.W.typeIn K (.ref C) = some (.type "type")
  kC : PySem.W.keepIn K (.ref C) = true
section
variable {K : Frg} {C : Addr} {newId : String} {tl : List Value}
theorem ExL.over (T : ExL K C newId tl) : PySem.W.excOver K C tl = true := by
  obtain ⟨nm, q, N, bs, bm, sn, sub, ab, col, dd, k0, k1, k2, k3, k5, hC, ht⟩ := T.cls
  have hcl : PySem.W.clsIn K C = some { name := nm, bases := bs, mro := .ref C :: bm, ns := N, qualname := q, hasDict := true, slotNames := sn, subclasses := sub, abstract := ab, collection := col, hasDel := false } := by unfold PySem.W.clsIn; rw [hC] <;> rfl
  unfold PySem.W.excOver
  rw [hcl]
  show (C == C && PySem.W.excTail tl bm) = true
  rw [ht, beq_self_eq_true]
  rfl
theorem taker_no {f : Str} (h : PySem.W.findIn K (.ref C) f = some none) : PySem.W.takerIn K C f = some none := by
  unfold PySem.W.takerIn
  rw [h]
  rfl
end
section
open PySem.Builtin PySem.Builtin.ObjectAttr
variable {prog : Program} {w : World} {A : Around} {R : Result → Shared → Prop} {hp : Heap} {g : Array GenState} {d : Drawn} {t : Nat} {os : OsState} {K : Frg} {C : Addr} {B newId : String} {tl : List Value}
/-- the first field of such an exception -/
theorem exl_new {name : Str} {tk : Tok} {v : Value} {x : Addr} {fv : Array Value} (SF : PySem.StoreFacts B tl "object.__setattr__" "object") (T : ExL K C newId tl) (X : K.In hp) (hx : hp.get? x = some { cls := .ref C, data := .fields fv }) (ha : PySem.W.findIn K (.ref C) name = some none)
    (hq : ∀ h' tk' dx, (∀ b o, b ≠ x → hp.get? b = some o → h'.get? b = some o) → hp.objs.size ≤ dx → dx ≠ x → h'.get? x = some { cls := .ref C, dict := some dx, data := .fields fv } →
      h'.Ns1 dx (fun y => if y = name then some v else none) → R (.ok (.ret .none)) ⟨h', g, d, tk', os⟩) :
    codeAny (model prog w) A (.call (.builtin "object.__setattr__") ⟨[.ref x, .str name tk, v], []⟩) R ⟨hp, g, d, t, os⟩ := by
  obtain ⟨nm, q, N, bs, bm, sn, sub, ab, col, dd, k0, k1, k2, k3, k5, hC, ht⟩ := T.cls
  have hcl : PySem.W.clsIn K C = some { name := nm, bases := bs, mro := .ref C :: bm, ns := N, qualname := q, hasDict := true, slotNames := sn, subclasses := sub, abstract := ab, collection := col, hasDel := false } := by unfold PySem.W.clsIn; rw [hC] <;> rfl
  have hcls := PySem.W.looks_clsIn (M := model prog w) X hcl
  have hxs : x ≠ hp.objs.size := Nat.ne_of_lt (Heap.lt_size hx)
  refine PySem.W.osa_openX (od := none) SF X ⟨hx, rfl, rfl, trivial⟩ T.over (taker_no ha) fun b => ?_
  unfold storeInOwnDict ownDictForStores
  repeat (first | with_reducible refine PySem.HandSPX.store_in_new ?_ ?_ | with_reducible refine wpAny_loadPart_at hx ?_ | with_reducible refine hcls.at ?_ | wp_step)
  · exact ⟨_, #[], _, (Heap.get?_update_ne _ _ _ _ hxs.symm).trans (Heap.get?_push_at rfl rfl), rfl, fun e he => absurd he (by simp), fun _ => rfl⟩
  · intro h' tk' hn' hs
    have hx₁ : (hp.push { cls := .type "dict", data := .dict #[] }).get? x = some { cls := .ref C, data := .fields fv } := Heap.get?_push_of_some _ hx
    refine hq h' tk' hp.objs.size (fun b o hb ho => ?_) (Nat.le_refl _) hxs.symm ?_ hn'
    · exact (hs.2 b (Nat.ne_of_lt (Heap.lt_size ho))).trans ((Heap.get?_update_ne _ _ _ _ hb).trans (Heap.get?_push_of_some _ ho))
    · exact (hs.2 x hxs).trans (Heap.get?_update_self _ hx₁ rfl)
/-- a further one -/
theorem exl_old {name : Str} {tk : Tok} {v : Value} {x dx : Addr} {fv : Array Value} {m0 : Str → Option Value} {nl : List Str} (SF : PySem.StoreFacts B tl "object.__setattr__" "object") (T : ExL K C newId tl) (X : K.In hp)
    (hx : hp.get? x = some { cls := .ref C, dict := some dx, data := .fields fv }) (hns : hp.Ns1 dx m0) (hw : Within m0 nl) (hz : nl.length ≤ 1000) (ha : PySem.W.findIn K (.ref C) name = some none)
    (hq : ∀ h' tk', (∀ b o, b ≠ dx → hp.get? b = some o → h'.get? b = some o) → h'.Ns1 dx (fun y => if y = name then some v else m0 y) → R (.ok (.ret .none)) ⟨h', g, d, tk', os⟩) :
    codeAny (model prog w) A (.call (.builtin "object.__setattr__") ⟨[.ref x, .str name tk, v], []⟩) R ⟨hp, g, d, t, os⟩ := by
  obtain ⟨nm, q, N, bs, bm, sn, sub, ab, col, dd, k0, k1, k2, k3, k5, hC, ht⟩ := T.cls
  have hcl : PySem.W.clsIn K C = some { name := nm, bases := bs, mro := .ref C :: bm, ns := N, qualname := q, hasDict := true, slotNames := sn, subclasses := sub, abstract := ab, collection := col, hasDel := false } := by unfold PySem.W.clsIn; rw [hC] <;> rfl
  have hcls := PySem.W.looks_clsIn (M := model prog w) X hcl
  obtain ⟨oD, esD, epD, hoD, hdD, _⟩ := hns.count hw
  refine PySem.W.osa_openX (od := some oD) SF X ⟨hx, rfl, rfl, hoD⟩ T.over (taker_no ha) fun b => ?_
  unfold storeInOwnDict ownDictForStores
  repeat (first | with_reducible refine PySem.OEX.store_in_old hns hw hz ?_ | with_reducible refine wpAny_loadPart_at hx ?_ | with_reducible refine hcls.at ?_ | wp_step)
  intro h' tk' hn' hs
  exact hq h' tk' (fun b o hb ho => (hs.2 b hb).trans ho) hn'
end
section
variable {X : Cx} {pins : List (Addr × Obj)} {σ : L2.St} {H : Hp} {s : Shared} {a C dx : Addr} {f : Str} {y : V} {u : Value} {fs : List (Str × V)} {E : Value → Shared → Prop} {A : Around} {B newId initId : String} {tl : List Value}
theorem exl_st1 {Q : Unit → Shared → Prop} (SF : PySem.StoreFacts B tl "object.__setattr__" "object") (T : ExL X.K C newId tl) (I : Inv X pins σ H s) (e : H a = some (exo a C none)) (hno : PySem.W.findIn X.K (.ref C) f = some none) (ry : RelV y u)
    (h : ∀ dx s', H dx = none → dx ≠ a → Inv X pins σ (upd (upd H dx (exd dx [(f, y)])) a (exo a C (some dx))) s' → Q () s') : wpAny (model X.prog X.w) A (setAttr (.ref a) f u) Q E s := by
  obtain ⟨t1, ho⟩ := exo_at I.hok e
  obtain ⟨hp, g, d, t, os⟩ := s
  refine PySem.W.set_plain I.kIn (ox := { cls := .ref C, dict := none, data := .fields #[.ref t1, .none, .none, .none, .bool false, .none] }) (od := none) ⟨ho, rfl, rfl, trivial⟩ T.sa ?_
  refine exl_new SF T I.kIn ho hno (fun h' tk' dx k dn dne hx hn => ?_)
  have hnd : H dx = none := I.hok.fresh dn
  have nd : ∀ {b : Addr} {o : Obj}, hp.get? b = some o → b ≠ dx := fun {b o} q => Nat.ne_of_lt (Nat.lt_of_lt_of_le (Heap.lt_size q) dn)
  have na : ∀ {b : Addr}, H b = none → b ≠ a := fun {b} n z => by
    rw [z, e] at n
    cases n
  have Un1 : Un X.fs [] H (upd (upd H dx (exd dx [(f, y)])) a (exo a C (some dx))) hp h' := {
    keep := fun b o q n _ _ => k b o (na n) q
    slot := fun b o q n _ _ => ⟨o.slots, k b o (na n) q⟩
    free := fun b o q n _ => by rw [upd_ne (na n), upd_ne (nd q)]; exact n
    there := fun b o q _ => by
      by_cases hb : b = a
      · exact ⟨_, by rw [hb]; exact hx⟩
      · exact ⟨o, k b o hb q⟩
    tups := fun b xs q => by rw [upd_ne (at_ne e q exo_tup), upd_ne (ne_of_none q hnd)]; exact q
    frzs := fun b o v q => by rw [upd_ne (at_ne e q exo_frz), upd_ne (ne_of_none q hnd)]; exact q
    tbls := fun b ps q => ⟨#[], by rw [upd_ne (at_ne e q exo_tbl), upd_ne (ne_of_none q hnd), q]; simp⟩ }
  refine h dx _ hnd dne (I.un (t' := tk') Un1 fun b o q => ?_)
  by_cases hb : b = a
  · subst hb
    rw [upd_same] at q
    cases q
    exact exo_ok hx
  · rw [upd_ne hb] at q
    by_cases hd : b = dx
    · subst hd
      rw [upd_same] at q
      cases q
      exact exd_ok hn (relO_put (fs := []) ry fun g => True.intro)
    · rw [upd_ne hd] at q
      exact (I.hok b o q).stay (fun c v hc z => k c v (by
          rcases hc with hc | hc
          · rw [hc]
            exact hb
          · exact at_ne e hc exo_own) z)
        (fun c hc => by rw [upd_ne (at_ne e hc exo_own), upd_ne (ne_of_none hc hnd)]; exact hc) (fun c xs hc => by rw [upd_ne (at_ne e hc exo_tup), upd_ne (ne_of_none hc hnd)]; exact hc)
theorem exl_st2 {Q : Unit → Shared → Prop} (SF : PySem.StoreFacts B tl "object.__setattr__" "object") (T : ExL X.K C newId tl) (I : Inv X pins σ H s) (e : H a = some (exo a C (some dx))) (ed : H dx = some (exd dx fs)) (hl : fs.length ≤ 900) (hno : PySem.W.findIn X.K (.ref C) f = some none) (ry : RelV y u)
    (h : ∀ s', Inv X pins σ (upd H dx (exd dx ((f, y) :: fs))) s' → Q () s') : wpAny (model X.prog X.w) A (setAttr (.ref a) f u) Q E s := by
  obtain ⟨t1, ho⟩ := exo_at I.hok e
  obtain ⟨mA, hns, rel⟩ := exd_at I.hok ed
  have hw := within_of rel
  obtain ⟨hp, g, d, t, os⟩ := s
  obtain ⟨oD, _, _, hoD, _, _⟩ := hns.count hw
  refine PySem.W.set_plain I.kIn (ox := { cls := .ref C, dict := some dx, data := .fields #[.ref t1, .none, .none, .none, .bool false, .none] }) (od := some oD) ⟨ho, rfl, rfl, hoD⟩ T.sa ?_
  refine exl_old SF T I.kIn ho hns hw (by rw [List.length_map]; omega) hno (fun h' tk' k hn => ?_)
  have hd : ∃ o, h'.get? dx = some o := by
    obtain ⟨o, _, _, e', _⟩ := hn
    exact ⟨o, e'⟩
  exact h _ (I.write (t' := tk') (x := dx) (e := dx) (o := exd dx ((f, y) :: fs)) (by rw [ed]; exact True.intro) (.inl rfl) k hd (exd_ok hn (relO_put ry rel)))
theorem exl_base {us : List Value} {Q : Value → Shared → Prop} (FB : PySem.ExcBaseFacts B newId initId tl) (T : ExL X.K C newId tl) (I : Inv X pins σ H s) (e : H a = some (exo a C none)) (hl : us.length ≤ sizeLine) (h : ∀ s', Inv X pins σ H s' → Q .none s') :
    wpAny (model X.prog X.w) A (call (.builtin initId) (.ref a :: us)) Q E s := by
  obtain ⟨nm, q, N, bs, bm, sn, sub, ab, col, dd, k0, k1, k2, k3, k5, hC, ht⟩ := T.cls
  obtain ⟨t1, ho⟩ := exo_at I.hok e
  obtain ⟨hp, g, d, t, os⟩ := s
  refine wpAny_call (PySem.HandSPX.init_base FB (fun Y => PySem.W.excTail_contains Y bm ht) (I.kIn _ _ hC) ho hl fun h' t2 k hx => ?_)
  have J := I.write (t' := t) (x := a) (e := a) (o := exo a C none) (by rw [e]; exact True.intro) (.inl rfl) k ⟨_, hx⟩ (exo_ok hx)
  have eu : upd H a (exo a C none) = H := by
    funext b
    by_cases hb : b = a
    · rw [hb, upd_same, e]
    · rw [upd_ne hb]
  rw [eu] at J
  exact h _ J
end
end Dl
namespace Dl
open PySem PySem.Spec PyProof.Rows L2
variable {B : Bs}
abbrev tlL : List Value := [.type "LookupError", .type "Exception", .type "BaseException", .type "object"]
theorem typ_LE : typeOf (.type "LookupError") = pure (.type "type") := by kernel_rfl
/-- LookupError.__init__(self, ..): nothing of it is told -/
def tLeI (K : Frg) (newId : String) (tl : List Value) (ta : TA) : TE := fun σ H Q => ta σ H fun vs H1 => ∃ (a C : Addr) (ws : List V), vs = .ref a :: ws ∧ ws.length ≤ 1000 ∧ ExL K C newId tl ∧ H1 a = some (exo a C none) ∧ Q .non H1
/-- self.f = e -/
def tOsl (K : Frg) (newId : String) (tl : List Value) (f : Str) (to te : TE) : TS := fun DD σ H => te σ H fun y H1 => to σ H1 fun x H2 => ∃ a C : Addr, x = .ref a ∧ ExL K C newId tl ∧ PySem.W.findIn K (.ref C) f = some none ∧
  ((H2 a = some (exo a C none) ∧ ∀ dx, H2 dx = none → dx ≠ a → DD.nx σ (upd (upd H2 dx (exd dx [(f, y)])) a (exo a C (some dx)))) ∨
    ∃ (dx : Addr) (fs : List (Str × V)), H2 a = some (exo a C (some dx)) ∧ H2 dx = some (exd dx fs) ∧ fs.length ≤ 900 ∧ DD.nx σ (upd H2 dx (exd dx ((f, y) :: fs))))
section
variable {X : Cx} {o e : Expr} {es : List Expr} {to te : TE} {ta : TA} {f : Str} {p p' p1 p2 pos : Pos} {newId : String} {tl : List Value} {Bn : String}
theorem pe_leinit {pl : Sem Bool} (hg : Gl X "LookupError") (hm : X.mg "LookupError" = none) (vV : PySem.W.findCls X.K (.type "LookupError") (.type "type") "__init__" = some (.val (.builtin "LookupError.__init__"))) (ha : PA X (e :: es) ta)
    (hc : eval (.Call (.Attribute (.Name "LookupError" p1) "__init__" p2) (e :: es) [] pos) X.env = (do
      let ov ← eval (.Name "LookupError" p1) X.env
      standAt p2.atName
      let (f, first) ← holding [ov] (getMethod ov "__init__" pl)
      callWith pos f first (backTo pos (starEach (e :: es) X.env)) (backToKw pos (keywordEach [] X.env))) := by rfl)
    (he : starEach (e :: es) X.env = (false, eval e X.env) :: starEach es X.env := by rfl) (hpl : (backTo pos (starEach es X.env)).any (·.1) = false := by rfl) :
    PE X (.Call (.Attribute (.Name "LookupError" p1) "__init__" p2) (e :: es) [] pos) (tLeI X.K "LookupError.__new__" tlL ta) := by
  refine ⟨fun pins s σ H Q I h => ?_⟩
  refine PySem.W.methodCall_KW (ld_blt I hg hm PyProof.Rows.Boot.«LookupError» ?_ (by decide) (by decide)) hc
  obtain ⟨m, fr⟩ := I.fr
  refine PySem.W.method_type fr I.ok.mod.kin typ_LE (by decide +kernel) vV (by decide +kernel) ?_
  show wpAny _ _ (callWith pos (Value.builtin "LookupError.__init__") [] (backTo pos (starEach (e :: es) X.env)) []) _ _ _
  refine PyProof.Rows.callWith_method1 (thn (ha.run pos pins _ σ H _ (I.tok _) h) fun us s1 ⟨vs, H1, I1, r1, a, C, ws, ev, hl, T, ea, q⟩ => ?_) he hpl
  subst ev
  cases r1 with
  | @cons _ u0 _ ur ra rw' =>
    obtain rfl : u0 = Value.ref a := ra
    have hlen : ur.length ≤ sizeLine := by
      rw [← Paired.length rw', sizeLine_eq]
      omega
    exact exl_base PySem.F.excBase_LookupError T I1 ea hlen fun s' J => ⟨.non, H1, J, rfl, q⟩
theorem ps_osl (SF : PySem.StoreFacts Bn tl "object.__setattr__" "object") (ho : PE X o to) (he : PE X e te) (hs : swapsWith e (some (.Attribute o f p')) pos.line X.env = pure false := by rfl) : PS X (.Assign [.Attribute o f p'] e pos) (tOsl X.K newId tl f to te) := by
  refine ⟨fun pins s σ H DD I h => ?_⟩
  refine plainObj_wpAny_Assign_Attribute (thn (he.run pins s σ H _ I h) fun v s1 ⟨y, H1, I1, r1, q1⟩ => thn (ho.run pins s1 σ H1 _ I1 q1) fun u s2 ⟨x, H2, I2, r2, a, C, ex, T, hno, q⟩ => ?_) hs
  subst ex
  obtain rfl : u = Value.ref a := r2
  rcases q with ⟨ea, q⟩ | ⟨dx, fs, ea, ed, hl, q⟩
  · exact exl_st1 SF T I2 ea hno r1 fun dx s' n ne J => ⟨σ, _, J, q dx n ne⟩
  · exact exl_st2 SF T I2 ea ed hl hno r1 fun s' J => ⟨σ, _, J, q⟩
end
/-! ### what such an __init__ keeps: its arguments under the names fs -/
def spI (C : Addr) (fs : List Str) : Sp := fun vs H Q _ => ∃ (a : Addr) (us : List V), vs = .ref a :: us ∧ us.length = fs.length ∧ H a = some (exo a C none) ∧ ∀ dx, H dx = none → dx ≠ a → Q .non (upd (upd H dx (exd dx (fs.zip us).reverse)) a (exo a C (some dx)))
theorem spI_len {C : Addr} {fs ps : List Str} (h : ps.length = fs.length + 1) : ∀ vs H Q E, spI C fs vs H Q E → vs.length = ps.length := fun vs H Q E ⟨a, us, e, l, _⟩ => by
  rw [e, List.length_cons, l, h]
section
variable {P : Program} {w : World} {K : Frg} {mg : Str → Option Value} {base : Heap} {C : Addr} {qual x1 x2 f1 f2 m : Str} {st : Stmt} {fI : Addr} {fd : FuncData} {j : Nat} {p1 p2 p3 p4 p5 p6 p7 p8 p9 q1 q2 q3 q4 q5 q6 : Pos}
theorem init_two (F : Fun K "__init__" qual st fI fd) (S : FnScope ["self", x1, x2] ["self", x1, x2] (defScope st)) (T : ExL K C "LookupError.__new__" tlL)
    (n1 : PySem.W.findIn K (.ref C) f1 = some none) (n2 : PySem.W.findIn K (.ref C) f2 = some none)
    (hbody : ∀ (cdv : Value) (A : Around) (outer : List Env) (s : Shared) (H : Hp) (E : XK), PSs (cxOf CX0 P w K mg base ["self", x1, x2] qual (defScope st) fI cdv A outer s H E).nox (defBody st)
      (tSeq (tDrop (tLeI K "LookupError.__new__" tlL (tCons (tVar 0) (tCons (tC (.str m)) tNil)))) (tSeq (tOsl K "LookupError.__new__" tlL f1 (tVar 0) (tVar 1)) (tOsl K "LookupError.__new__" tlL f2 (tVar 0) (tVar 2))))) :
    FnOk P w K mg base CX0 2 fI fd ["self", x1, x2] (spI C [f1, f2]) := by
  refine (F.ok (k := 1) S (spI_len rfl) fun cdv A outer s H vs Q E hr h => ⟨_, hbody cdv A outer s H E, ?_⟩)
  obtain ⟨a, us, rfl, hl, ea, q⟩ := h
  obtain ⟨y, z, rfl⟩ : ∃ y z, us = [y, z] := by
    cases us with
    | nil => cases hl
    | cons y l =>
      cases l with
      | nil => simp at hl
      | cons z l =>
        cases l with
        | nil => exact ⟨y, z, rfl⟩
        | cons _ _ => simp at hl
  refine ⟨.ref a, rfl, a, C, [.str m], rfl, by simp, T, ea, ?_⟩
  refine ⟨y, rfl, .ref a, rfl, a, C, rfl, T, n1, .inl ⟨ea, fun dx hd hne => ?_⟩⟩
  refine ⟨z, rfl, .ref a, rfl, a, C, rfl, T, n2, .inr ⟨dx, [(f1, y)], upd_same, by rw [upd_ne hne, upd_same], by simp, ?_⟩⟩
  have e : upd (upd (upd H dx (exd dx [(f1, y)])) a (exo a C (some dx))) dx (exd dx [(f2, z), (f1, y)]) = upd (upd H dx (exd dx (([f1, f2].zip [y, z]).reverse))) a (exo a C (some dx)) := by
    funext b
    by_cases h1 : b = dx
    · subst h1
      rw [upd_same, upd_ne hne, upd_same]
      rfl
    · by_cases h2 : b = a
      · subst h2
        rw [upd_ne h1, upd_same, upd_same]
      · rw [upd_ne h1, upd_ne h2, upd_ne h1, upd_ne h2, upd_ne h1]
  show Q .non _
  rw [e]
  exact q dx hd hne
end
/-! ### such an exception made and raised -/
/-- C(e, ..) -/
def tMkL (C : Addr) (fs : List Str) (ta : TA) : L2.St → Hp → XK → Prop := fun σ H Q => ta σ H fun vs H1 => vs.length = fs.length ∧ ∀ d, H1 d = none → Q (.ref C) (some d) (upd H1 d (.xd (fs.zip vs).reverse))
section
variable {X : Cx} {x : Str} {e : Expr} {es : List Expr} {ta : TA} {p pos pos2 : Pos} {C fI : Addr} {k : Nat} {fd : FuncData} {ps fs : List Str} {B0 newId initId : String} {tl : List Value}
theorem pmk_l (FB : PySem.ExcBaseFacts B0 newId initId tl) (T : ExL X.K C newId tl) (iC : PySem.W.findIn X.K (.ref C) "__init__" = some (some (.ref fI))) (tI : PySem.W.typeIn X.K (.ref fI) = some (.type "function"))
    (F1 : FnOk X.prog X.w X.K X.mg X.base CX0 k fI fd ps (spI C fs)) (hr : Room (k + 1) X.A) (hb : Binds X.K fd ps []) (hg : Gl X x) (hm : X.mg x = some (.ref C)) (ha : PA X (e :: es) ta) (hfs : fs.length ≤ 1000)
    (hdb : (x == ("__debug__" : Str)) = false := by decide) (he : starEach (e :: es) X.env = (false, eval e X.env) :: starEach es X.env := by rfl) (hpl : (backTo pos (starEach es X.env)).any (·.1) = false := by rfl) :
    PMk X (.Call (.Name x p) (e :: es) [] pos) (tMkL C fs ta) := by
  intro pins s σ H Q I h
  obtain ⟨nm, q, N, bs, bm, sn, sub, ab, col, dd, k0, k1, k2, k3, k5, hC, hbm⟩ := T.cls
  refine wpAny_Call_Name_kw (ld_glob I hg hm ?_ hdb)
  refine PySem.W.callWith_K (h₀ := X.base) I.ok.mod.kin T.kC (thn (ha.run pos pins s σ H _ I h) fun us s1 ⟨vs, H1, I1, r1, hz, q1⟩ => ⟨I1.kIn, ?_⟩) he hpl
  show wpAny _ _ (call (.ref C) us) _ _ _
  obtain ⟨hp, g, dr, tk, os⟩ := s1
  have hsz : hp.objs.size ≤ hp.objs.size + 1 := Nat.le_succ _
  have hn : H1 (hp.objs.size + 1) = none := I1.hok.fresh hsz
  have kk : ∀ b o, hp.get? b = some o → ((hp.push (PySem.W.kdv_tup us)).push (PySem.HandSPX.excO C hp.objs.size)).get? b = some o := fun b o e => Heap.get?_push_of_some _ (Heap.get?_push_of_some _ e)
  have hget : ((hp.push (PySem.W.kdv_tup us)).push (PySem.HandSPX.excO C hp.objs.size)).get? (hp.objs.size + 1) = some (PySem.HandSPX.excO C hp.objs.size) := by heap_get
  have I2 : Inv X pins σ (upd H1 (hp.objs.size + 1) (exo (hp.objs.size + 1) C none)) ⟨(hp.push (PySem.W.kdv_tup us)).push (PySem.HandSPX.excO C hp.objs.size), g, dr, tk, os⟩ :=
    I1.laid (t' := tk) (a := hp.objs.size + 1) (o := exo (hp.objs.size + 1) C none) (h' := (hp.push (PySem.W.kdv_tup us)).push (PySem.HandSPX.excO C hp.objs.size)) kk hsz (exo_ok hget)
  have r2 : Vals (V.ref (hp.objs.size + 1) :: vs) (Value.ref (hp.objs.size + 1) :: us) := .cons rfl r1
  have hq : spI C fs (V.ref (hp.objs.size + 1) :: vs) (upd H1 (hp.objs.size + 1) (exo (hp.objs.size + 1) C none)) (fun v H2 => v = .non ∧ ∃ (d : Addr) (gs : List (Str × V)), H2 (hp.objs.size + 1) = some (exo (hp.objs.size + 1) C (some d)) ∧ H2 d = some (exd d gs) ∧ H1 d = none ∧ Q (.ref C) (some d) (upd (del H2 (hp.objs.size + 1)) d (.xd gs))) (fun _ _ _ => False) := by
    refine ⟨_, vs, rfl, hz, upd_same, fun dx hd hne => ?_⟩
    rw [upd_ne hne] at hd
    refine ⟨rfl, dx, _, upd_same, by rw [upd_ne hne, upd_same], hd, ?_⟩
    have e : upd (del (upd (upd (upd H1 (hp.objs.size + 1) (exo (hp.objs.size + 1) C none)) dx (exd dx (fs.zip vs).reverse)) (hp.objs.size + 1) (exo (hp.objs.size + 1) C (some dx))) (hp.objs.size + 1)) dx (.xd (fs.zip vs).reverse) = upd H1 dx (.xd (fs.zip vs).reverse) := by
      funext b
      by_cases h1 : b = dx
      · subst h1
        rw [upd_same, upd_same]
      · by_cases h2 : b = hp.objs.size + 1
        · subst h2
          rw [upd_ne h1, del_same, upd_ne h1, hn]
        · rw [upd_ne h1, del_ne h2, upd_ne h2, upd_ne h1, upd_ne h2, upd_ne h1]
    rw [e]
    exact q1 dx hd
  have hl : (Value.ref (hp.objs.size + 1) :: us ++ []).length = ps.length := by
    have e := r2.length
    rw [F1.len _ _ _ _ hq] at e
    rw [List.append_nil]
    exact e.symm
  have hus : us.length ≤ sizeLine := by
    rw [← Paired.length r1, sizeLine_eq]
    omega
  have b2 := hb _ (Value.ref (hp.objs.size + 1) :: us) I2.kIn hl
  rw [List.append_nil] at b2
  refine wpAny_call (PySem.HandSPX.call_own FB (fun Y => PySem.W.excTail_contains Y bm hbm) (I1.kIn _ _ hC) (PySem.W.looks_findIn I1.kIn iC) (fun self => PySem.W.bind_fn I1.kIn self tI) hus
    (codeAny_mono (F1.run _ X.stack _ _ ⟨Value.ref (hp.objs.size + 1) :: us, []⟩ (Value.ref (hp.objs.size + 1) :: us) _ _ (fun _ _ _ => False) (hr.make C us []) (I2.env0.make C us []) b2 r2 hq) fun r s' hq' => ?_))
  cases r with
  | error er => exact (pass0 pins σ _ _ er s' I2 hq' : X.xe er s')
  | ok fl =>
    cases fl with
    | ret u =>
      obtain ⟨v, H2, os2, bare2, un2, hok2, rv, ev, d, gs, ea, ed, hd1, q2⟩ := hq'
      subst ev
      obtain ⟨h2, g2, d2, t2, os'⟩ := s'
      exact ⟨rv, mk_end (raises_own T.exC T.tyC) I1 hsz kk un2 hok2 os2 bare2 ea ed hd1 q2⟩
    | next => exact False.elim hq'
    | brk => exact False.elim hq'
    | cont => exact False.elim hq'
end
/-- raise C(e, ..): the wish W gets the class and the fields -/
def wRaiseL (C : Addr) (fs : List Str) (W : WXD) (a : WA) : WS := fun _ ρ μ => a ρ μ fun ds μ1 => ds.length = fs.length ∧ W (.ref C) (fs.zip ds).reverse ρ μ1
theorem kd_zip {M : Ms} {H : Hp} : ∀ {fs : List Str} {ds : List D} {vs : List V}, VDs M H ds vs → KD M H (fs.zip ds) (fs.zip vs)
  | [], _, _, _ => .nil
  | f :: fs, [], _, h => by
    rw [show _ = [] from h]
    exact .nil
  | f :: fs, d :: ds, _, h => by
    obtain ⟨v, vs, rfl, h1, h2⟩ := h
    exact .cons ⟨rfl, h1⟩ (kd_zip h2)
theorem kd_app {κ : Type} {M : Ms} {H : Hp} : ∀ {xs ys : List (κ × D)} {as bs : List (κ × V)}, KD M H xs as → KD M H ys bs → KD M H (xs ++ ys) (as ++ bs)
  | _, _, _, _, .nil, h => h
  | _, _, _, _, .cons r t, h => .cons r (kd_app t h)
theorem kd_rev {κ : Type} {M : Ms} {H : Hp} : ∀ {xs : List (κ × D)} {as : List (κ × V)}, KD M H xs as → KD M H xs.reverse as.reverse
  | _, _, .nil => .nil
  | _, _, .cons r t => by
    rw [List.reverse_cons, List.reverse_cons]
    exact kd_app (kd_rev t) (.cons r .nil)
section
variable {X : Cx} {e : Expr} {W : WXD} {a : WA} {C : Addr} {fs : List Str} {p pos pos2 : Pos} {ta : TA}
theorem js_raiseL {es : List Expr} {c : Expr} (hc : X.calm = true) (tk : Takes X (upX B W)) (he : PMk X c (tMkL C fs (upA B a))) : JS B X (.Raise (some c) none pos) (wRaiseL C fs W a) := PS.of (ps_raise hc tk he) fun E σ H ⟨ρ, μ, DD, rs, m, h, l⟩ => by
  refine ⟨ρ, μ, _, rs, m, h, fun vs H1 ds μ1 s1 m1 v1 ⟨hl, w⟩ => ⟨by rw [← v1.length]; exact hl, fun d hd => ?_⟩⟩
  have kp : ∀ b o, H1 b = some o → upd H1 d (.xd (fs.zip vs).reverse) b = some o := fun b o e => by
    rw [upd_ne (ne_of_none e hd)]
    exact e
  have st : Step (MD μ1) H1 (MD μ1) (upd H1 d (.xd (fs.zip vs).reverse)) := .ext kp
  exact ⟨(fs.zip ds).reverse, ρ, μ1, ⟨_, upd_same, kd_rev (KD.step st (kd_zip v1))⟩, (rs.step s1).step st, m1.ext kp, w⟩
end
end Dl
namespace Dl
open PySem PySem.Spec PyProof.Rows L2
variable {B : Bs}
theorem RS.unset {M : Ms} {H : Hp} {ρ : Rho} {σ : L2.St} (i : Nat) (r : RS B M H ρ σ) : RS B M H (ρ.set i none) (σ.set i none) := by
  refine ⟨by simpa using r.1, fun j d e => ?_, r.2.2⟩
  by_cases h : j = i
  · subst h
    by_cases hl : j < ρ.length
    · rw [List.getElem?_set_self hl] at e
      cases e
    · rw [List.getElem?_eq_none (by simpa using hl)] at e
      cases e
  · rw [List.getElem?_set_ne (Ne.symm h)] at e ⊢
    exact r.2.1 j d e
theorem MH.no_xd {μ : Mu} {H : Hp} {a : Addr} {gs : List (Str × V)} (m : MH μ H) (h : H a = some (.xd gs)) : ¬ MD μ a := fun ⟨o, e⟩ => by
  have z := m a o e
  cases o with
  | lst ds => obtain ⟨xs, h1, _⟩ := z; rw [h] at h1; cases h1
  | dK ds => obtain ⟨xs, h1, _⟩ := z; rw [h] at h1; cases h1
  | dT ds => obtain ⟨xs, h1, _⟩ := z; rw [h] at h1; cases h1
  | ins C fs => obtain ⟨dx, gs2, h1, _⟩ := z; rw [h] at h1; cases h1
  | pot => obtain ⟨x, y, h1, _⟩ := z; rw [h] at h1; cases h1
  | ro ds => obtain ⟨xs, h1, _⟩ := z; rcases h1 with h1 | ⟨ob, h1⟩ <;> (rw [h] at h1; cases h1)
  | fz o ks kvs => have h1 := z.1; rw [h] at h1; cases h1
  | fzT o ks kvs => have h1 := z.1; rw [h] at h1; cases h1
/-! ### try: body, except C as n: suite -/
def wSuiteE (i : Nat) (DD : Ed) : Ed := { nx := fun ρ μ => DD.nx (ρ.set i none) μ, rt := DD.rt, bk := fun ρ μ => DD.bk (ρ.set i none) μ, ct := fun ρ μ => DD.ct (ρ.set i none) μ }
def wTryAs (K : Frg) (c : Value) (i : Nat) (tb : WXD → WS) (ts : Addr → Value → List (Str × D) → WS) (W : WXD) : WS := fun DD ρ μ =>
  tb (fun cls fs ρ' μ' => ∃ b, PySem.W.exmOne K cls c = some b ∧ (b = true → ∀ a, ts a cls fs (wSuiteE i DD) (ρ'.set i (some (.at a))) μ') ∧ (b = false → W cls fs ρ' μ')) DD ρ μ
section
variable {X : Cx} {x n : Str} {c : Value} {i : Nat} {body suite : List Stmt} {b₀ : Stmt} {np pos pos' : Pos} {tb : WXD → WS} {ts : Addr → Value → List (Str × D) → WS} {W : WXD}
theorem js_try_as (hs : X.stack = X.env :: X.outer) (hf : X.env.frame = some X.env.locals) (hN : X.N.Nodup) (hi : X.N[i]? = some n) (hln : X.env.kindOf n = some .local) (hc : Names X x c) (tk : Takes X (upX B W))
    (hb : ∀ (B' : Bs) (WD : WXD) (pn : List (Addr × Obj)) (xe : Value → Shared → Prop), Takes (X.tr pn xe) (upX B' WD) → PassesOwn (model X.prog X.w) X.A X.env xe → JSs B' (X.tr pn xe) body (tb WD))
    (hsu : ∀ (B' : Bs) (a : Addr) (oe : Obj) (cls : Value) (d : Option Addr) (fs : List (Str × D)) (pn : List (Addr × Obj)), Zc cls d oe → (∃ vs, oe.data = .fields vs) → Flds B'.1 B'.2 d fs → (∀ dd, d = some dd → ¬ B'.1 dd) → JSs B' (X.suite a ((a, oe) :: pn)) (b₀ :: suite) (ts a cls fs)) :
    JS B X (.Try body [.ExceptHandler (some (.Name x np)) (some n) (b₀ :: suite) pos'] [] [] pos) (wTryAs X.K c i tb ts W) := by
  refine PS.of (ps_try_as (c := c) (i := i) (Wout := upX B W)
    (tb := fun WL E σ H => ∃ (B' : Bs) (WD : WXD), (∀ cls d σ' H', upX B' WD cls d σ' H' → WL cls d σ' H') ∧ upS B' (tb WD) E σ H)
    (ts := fun a cls d E σ H => ∃ (B' : Bs) (fs : List (Str × D)), Flds B'.1 B'.2 d fs ∧ (∀ dd, d = some dd → ¬ B'.1 dd) ∧ upS B' (ts a cls fs) E σ H) hs hf hN hi hln hc tk (fun WL pn xe tkL po => ?_) (fun a oe cls d pn hz hfl => ?_)) ?_
  · exact ⟨fun pins s σ H E I ⟨B', WD, imp, h⟩ => (hb B' WD pn xe (tkL.imp imp) po).run pins s σ H E I h⟩
  · exact ⟨fun pins s σ H E I ⟨B', fs, fl, nm, h⟩ => (hsu B' a oe cls d fs pn hz hfl fl nm).run pins s σ H E I h⟩
  · intro E σ H ⟨ρ, μ, DD, rs, m, h, l⟩
    refine ⟨(MD μ, H), _, ?_, ρ, μ, DD, ⟨rs.1, rs.2.1, .refl⟩, m, h, ⟨fun σ' H' ρ' μ' st r2 m2 q => l.nx σ' H' ρ' μ' st ⟨r2.1, r2.2.1, rs.2.2.trans st⟩ m2 q, fun v H' d μ' st m2 hd q => l.rt v H' d μ' st m2 hd q, fun σ' H' ρ' μ' st r2 m2 q => l.bk σ' H' ρ' μ' st ⟨r2.1, r2.2.1, rs.2.2.trans st⟩ m2 q, fun σ' H' ρ' μ' st r2 m2 q => l.ct σ' H' ρ' μ' st ⟨r2.1, r2.2.1, rs.2.2.trans st⟩ m2 q⟩⟩
    rintro cls d σ' H' ⟨fs, ρ', μ', fl, r2, m2, b, hb1, hyes, hno⟩
    have st : Step (MD μ) H (MD μ') H' := r2.2.2
    refine ⟨b, hb1, fun hbt a na => ⟨(MD μ', H'), fs, fl, fun dd e => (by subst e; obtain ⟨gs, h1, _⟩ := fl; exact m2.no_xd h1), ρ'.set i (some (.at a)), μ', wSuiteE i DD, ?_, m2, hyes hbt a, ?_⟩, fun hbf => ⟨fs, ρ', μ', fl, ⟨r2.1, r2.2.1, rs.2.2.trans st⟩, m2, hno hbf⟩⟩
    · have r3 := RS.set (d := .at a) (v := .ref a) i r2 rfl
      exact ⟨r3.1, r3.2.1, .refl⟩
    · exact ⟨fun σ2 H2 ρ2 μ2 s2 r3 m3 q => l.nx _ H2 (ρ2.set i none) μ2 (st.trans s2) (RS.unset i ⟨r3.1, r3.2.1, (rs.2.2.trans st).trans s2⟩) m3 q, fun v H2 d2 μ2 s2 m3 hd q => l.rt v H2 d2 μ2 (st.trans s2) m3 hd q,
        fun σ2 H2 ρ2 μ2 s2 r3 m3 q => l.bk _ H2 (ρ2.set i none) μ2 (st.trans s2) (RS.unset i ⟨r3.1, r3.2.1, (rs.2.2.trans st).trans s2⟩) m3 q, fun σ2 H2 ρ2 μ2 s2 r3 m3 q => l.ct _ H2 (ρ2.set i none) μ2 (st.trans s2) (RS.unset i ⟨r3.1, r3.2.1, (rs.2.2.trans st).trans s2⟩) m3 q⟩
end
/-! ### fields of the exception that a suite holds -/
theorem Flds.stp {M M' : Ms} {H H' : Hp} {d : Option Addr} {fs : List (Str × D)} (f : Flds M H d fs) (nm : ∀ dd, d = some dd → ¬ M dd) (st : Step M H M' H') : Flds M' H' d fs := by
  cases d with
  | none => exact f
  | some dd =>
    obtain ⟨gs, h1, h2⟩ := f
    exact ⟨gs, st.keep dd _ (nm dd rfl) h1, KD.step st h2⟩
theorem kd_lookup {M : Ms} {H : Hp} {f : Str} {v : D} : ∀ {fs : List (Str × D)} {gs : List (Str × V)}, KD M H fs gs → fs.lookup f = some v → ∃ u, gs.lookup f = some u ∧ VD M H v u
  | _, _, .nil, h => by cases h
  | (k, d) :: fs, (k2, u) :: gs, .cons r t, h => by
    have e : k2 = k := r.1.symm
    subst e
    rw [List.lookup_cons] at h ⊢
    cases c : f == k2 with
    | true =>
      rw [c] at h
      cases h
      exact ⟨u, rfl, r.2⟩
    | false =>
      rw [c] at h
      exact kd_lookup t h
/-- e.f of an exception of the class at C -/
def wXf (a : Addr) (cls : Value) (fs : List (Str × D)) (C : Addr) (f : Str) (w : WE) : WE := fun ρ μ Q => w ρ μ fun d μ1 => d = .at a ∧ cls = .ref C ∧ ∃ v, fs.lookup f = some v ∧ Q v μ1
theorem je_xf {X : Cx} {a C : Addr} {oe : Obj} {cls : Value} {d : Option Addr} {pn : List (Addr × Obj)} {e : Expr} {w : WE} {pos : Pos} {n : Str} {fs : List (Str × D)} (T : XfC X.K C) (hno : PySem.W.findIn X.K (.ref C) n = some none)
    (hz : Zc cls d oe) (hf : ∃ vs, oe.data = .fields vs) (fl : Flds B.1 B.2 d fs) (nm : ∀ dd, d = some dd → ¬ B.1 dd) (he : JE B (X.suite a ((a, oe) :: pn)) e w) (hb : attributeBase e n X.env (eval e X.env) = eval e X.env := by rfl) :
    JE B (X.suite a ((a, oe) :: pn)) (.Attribute e n pos) (wXf a cls fs C n w) := PE.of (pe_xf T hno hz hf he hb) fun σ H Q ⟨ρ, μ, QD, rs, m, h, k⟩ => up_mk rs m h fun v H1 dd μ1 s1 m1 v1 ⟨e1, e2, u, e3, q⟩ => by
  subst e1
  refine ⟨v1, e2, ?_⟩
  have st : Step B.1 B.2 (MD μ1) H1 := rs.2.2.trans s1
  have f2 := fl.stp nm st
  cases d with
  | none =>
    rw [show fs = [] from fl] at e3
    cases e3
  | some da =>
    obtain ⟨gs, g1, g2⟩ := f2
    obtain ⟨x, l1, l2⟩ := kd_lookup g2 e3
    exact ⟨da, gs, x, rfl, g1, l1, k _ _ ⟨u, μ1, s1, m1, l2, q⟩⟩
end Dl
namespace Dl
open PySem PySem.Spec PyProof.Rows L2
variable {B : Bs}
/-! ### isinstance(e, ..) of the exception that a suite holds -/
def clsD : D → Option Value
  | .at C => some (.ref C)
  | .ty n => some (.type n)
  | _ => none
def IsK (K : Frg) (C : Addr) (d : D) (b : Bool) : Prop := (∃ cv, clsD d = some cv ∧ PySem.W.kitOne K (.ref C) cv = some b) ∨ ∃ ds cvs, d = .tup ds ∧ ds.map clsD = cvs.map some ∧ PySem.W.kitAny K (.ref C) cvs = some b
structure IsC (K : Frg) (C : Addr) : Prop where
  cl : PySem.W.isClsIn K C = true
  ga : PySem.W.findIn K (.ref C) "__getattribute__" = some (some (.builtin "BaseException.__getattribute__"))
  gt : PySem.W.findIn K (.ref C) "__getattr__" = some none
  sub : PySem.W.subIn K (.ref C) (.type "BaseException") = some true
  ha : PySem.W.findIn K (.ref C) "__class__" = some (some (.builtin "object.__class__"))
  hn : PySem.W.specialIn K (.builtin "object.__class__") "__get__" = some (some (.builtin "getset_descriptor.__get__"))
  tk : PySem.W.takesIn K (.builtin "object.__class__") = some true
  hm : PySem.W.mroIn K C (.type "object") = some true
def rIsX (K : Frg) (C a : Addr) (d : Option Addr) : List V → Hp → VK → Prop := fun xs H Q => (∀ dd, d = some dd → ∃ gs, H dd = some (.xd gs)) ∧ ∃ (c : V) (b : Bool), xs = [.ref a, c] ∧
  ((∃ cv, (∀ u, RelV c u → u = cv) ∧ PySem.W.kitOne K (.ref C) cv = some b) ∨ ∃ (tp : Addr) (cs : List V) (cvs : List Value), c = .ref tp ∧ H tp = some (.tup cs) ∧ (∀ us, Vals cs us → us = cvs) ∧ PySem.W.kitAny K (.ref C) cvs = some b) ∧ Q (.bl b) H
theorem call_isX {X : Cx} {a C : Addr} {d : Option Addr} {oe : Obj} {pn : List (Addr × Obj)} (T : IsC X.K C) (hz : Zc (.ref C) d oe) (hf : ∃ vs, oe.data = .fields vs) : CallR (X.suite a ((a, oe) :: pn)) (.builtin "isinstance") (rIsX X.K C a d) := by
  intro pins s σ H xs us Q I r ⟨hd, c, b, e, h, q⟩
  subst e
  cases r with
  | cons rx rr =>
    cases rr with
    | cons rt rr =>
      cases rr
      cases rx
      obtain ⟨hget, _⟩ := I.pin (a, oe) (List.mem_append.mpr (.inl List.mem_cons_self))
      obtain ⟨vs, hv⟩ := hf
      obtain ⟨od, J⟩ : ∃ od, PySem.W.InstAt s.heap a oe C od := by
        have nc : PySem.W.notCls oe := by unfold PySem.W.notCls; rw [hv] <;> rfl
        cases d with
        | none => exact ⟨none, hget, hz.1, nc, by rw [hz.2]; trivial⟩
        | some dd =>
          obtain ⟨gs, hg⟩ := hd dd rfl
          have hx : ObjOk X.prog X.w H s.heap dd (.xd gs) := I.hok dd _ hg
          obtain ⟨mA, hns, _⟩ := hx
          obtain ⟨od, ho, _⟩ := lookIn_ns hns
          exact ⟨some od, hget, hz.1, nc, by rw [hz.2]; exact ho⟩
      have Z := PySem.W.kitx_exc (x := a) (ox := oe) (od := od) T.cl T.ga T.gt T.sub T.ha T.hn T.tk T.hm
      rcases h with ⟨cv, hcv, hk⟩ | ⟨tp, cs, cvs, ec, ht, hcv, hk⟩
      · have ec := hcv _ rt
        subst ec
        exact PySem.W.kia_one Z I.kIn J hk (fun z => nomatch z) fun tk => ⟨.bl b, H, I.kept (t' := tk) fun _ _ z => z, rfl, q⟩
      · subst ec
        cases rt
        obtain ⟨its, rv, ⟨o, ho, hc, n, hdt⟩, _⟩ := I.tuple (SqT.of ht)
        have ei := hcv _ rv
        subst ei
        obtain ⟨o1, o2, o3, o4⟩ := o
        dsimp only at hc hdt
        subst hc hdt
        have pl := ho
        exact PySem.W.kia_tup Z I.kIn J pl hk (fun z => nomatch z) fun tk => ⟨.bl b, H, I.kept (t' := tk) fun _ _ z => z, rfl, q⟩
end Dl
namespace Dl
open PySem PySem.Spec PyProof.Rows L2
variable {B : Bs}
theorem clsD_v {M : Ms} {H : Hp} {d : D} {v : V} {cv : Value} (e : clsD d = some cv) (r : VD M H d v) : ∀ u, RelV v u → u = cv := fun u ru => by
  cases d with
  | «at» C =>
    cases e
    rw [show v = V.ref C from r] at ru
    exact ru
  | ty n =>
    cases e
    rw [show v = V.ty n from r] at ru
    exact ru
  | _ => cases e
theorem clsD_vs {M : Ms} {H : Hp} : ∀ {ds : List D} {vs : List V} {cvs : List Value}, ds.map clsD = cvs.map some → VDs M H ds vs → ∀ us, Vals vs us → us = cvs
  | [], _, cvs, e, r, us, ru => by
    rw [show _ = [] from r] at ru
    cases ru
    cases cvs with
    | nil => rfl
    | cons _ _ => cases e
  | d :: ds, _, cvs, e, r, us, ru => by
    obtain ⟨v, vs, rfl, h1, h2⟩ := r
    cases ru with
    | cons r1 r2 =>
      cases cvs with
      | nil => cases e
      | cons c cs =>
        simp only [List.map_cons, List.cons.injEq] at e
        rw [clsD_v e.1 h1 _ r1, clsD_vs e.2 h2 _ r2]
/-- isinstance(e, c) -/
def wIsX (K : Frg) (a : Addr) (cls : Value) (C : Addr) (t : WA) : WE := fun ρ μ Q => t ρ μ fun ds μ1 => cls = .ref C ∧ ∃ c b, ds = [.at a, c] ∧ IsK K C c b ∧ Q (.bl b) μ1
theorem je_isX {X : Cx} {a C : Addr} {oe : Obj} {cls : Value} {d : Option Addr} {pn : List (Addr × Obj)} {e : Expr} {es : List Expr} {w : WA} {p pos : Pos} {fs : List (Str × D)} (T : IsC X.K C) (hm : X.mg "isinstance" = none)
    (hz : Zc cls d oe) (hf : ∃ vs, oe.data = .fields vs) (fl : Flds B.1 B.2 d fs) (nm : ∀ dd, d = some dd → ¬ B.1 dd) (ha : JA B (X.suite a ((a, oe) :: pn)) (e :: es) w)
    (hv : bootBuiltins "isinstance" = some (.builtin "isinstance") := by decide +kernel) (hg : Gl X "isinstance" := by rfl)
    (he : starEach (e :: es) X.env = (false, eval e X.env) :: starEach es X.env := by rfl) (hpl : (backTo pos (starEach es X.env)).any (·.1) = false := by rfl) :
    JE B (X.suite a ((a, oe) :: pn)) (.Call (.Name "isinstance" p) (e :: es) [] pos) (wIsX X.K a cls C w) := by
  by_cases hc : cls = .ref C
  · subst hc
    refine PE.of (pe_callB (X := X.suite a ((a, oe) :: pn)) (call_isX T hz hf) hg hm hv ha (by decide) (by decide) he hpl) fun σ H Q ⟨ρ, μ, QD, rs, m, h, k⟩ => ?_
    refine ⟨ρ, μ, _, rs, m, h, fun vs H1 ds μ1 s1 m1 v1 ⟨_, c, b, e1, hk, q⟩ => ?_⟩
    subst e1
    have f2 := fl.stp nm (rs.2.2.trans s1)
    refine ⟨fun dd ed => ?_, ?_⟩
    · subst ed
      obtain ⟨gs, g1, _⟩ := f2
      exact ⟨gs, g1⟩
    · obtain ⟨v0, vs0, rfl, h0, v2, vs2, rfl, h2, e3⟩ := v1
      rw [show vs2 = [] from e3, show v0 = V.ref a from h0]
      refine ⟨v2, b, rfl, ?_, k _ _ ⟨.bl b, μ1, s1, m1, rfl, q⟩⟩
      rcases hk with ⟨cv, h3, h4⟩ | ⟨ds, cvs, rfl, h3, h4⟩
      · exact .inl ⟨cv, clsD_v h3 h2, h4⟩
      · obtain ⟨tp, xs, rfl, ⟨_, ht⟩, hx⟩ := h2
        exact .inr ⟨tp, xs, cvs, rfl, ht, clsD_vs h3 hx, h4⟩
  · exact ⟨fun pins s σ H Q I ⟨ρ, μ, QD, rs, m, h, k⟩ => by
      have := pe_callB (X := X.suite a ((a, oe) :: pn)) (x := "isinstance") (p := p) (pos := pos) (id := "isinstance") (r := fun _ _ _ => False) (fun _ _ _ _ _ _ _ _ _ z => z.elim) hg hm hv ha (by decide) (by decide) he hpl
      exact this.run pins s σ H Q I ⟨ρ, μ, _, rs, m, h, fun vs H1 ds μ1 s1 m1 v1 ⟨z, _⟩ => hc z⟩⟩
/-! ### what a class that raises promises -/
structure MkL (P : Program) (w : World) (K : Frg) (mg : Str → Option Value) (base : Heap) (k : Nat) (x : Str) (C : Addr) (fs : List Str) : Prop where
  ex : ∃ (fI : Addr) (fd : FuncData) (ps : List Str), FnOk P w K mg base CX0 k fI fd ps (spI C fs) ∧ PySem.W.findIn K (.ref C) "__init__" = some (some (.ref fI)) ∧ PySem.W.typeIn K (.ref fI) = some (.type "function") ∧ Binds K fd ps [] ∧ mg x = some (.ref C) ∧ ExL K C "LookupError.__new__" tlL
theorem js_raise {X : Cx} {e : Expr} {es : List Expr} {W : WXD} {a : WA} {C : Addr} {fs : List Str} {p pos pos2 : Pos} {k j : Nat} {x : Str} (c : MkL X.prog X.w X.K X.mg X.base k x C fs) (hr : Room j X.A) (hj : k + 1 ≤ j) (hc : X.calm = true) (tk : Takes X (upX B W)) (ha : JA B X (e :: es) a) (hg : Gl X x := by rfl) (hfs : fs.length ≤ 1000 := by decide)
    (hdb : (x == ("__debug__" : Str)) = false := by decide) (he : starEach (e :: es) X.env = (false, eval e X.env) :: starEach es X.env := by rfl) (hpl : (backTo pos (starEach es X.env)).any (·.1) = false := by rfl) :
    JS B X (.Raise (some (.Call (.Name x p) (e :: es) [] pos)) none pos2) (wRaiseL C fs W a) := by
  obtain ⟨fI, fd, ps, F, iC, tI, hb, hm, T⟩ := c.ex
  exact js_raiseL (es := es) hc tk (pmk_l PySem.F.excBase_LookupError T iC tI F (hr.mono hj) hb hg hm ha hfs hdb he hpl)
end Dl
namespace Dl
open PySem PySem.Spec PyProof.Rows L2
theorem kit_no {K : Frg} {C Y : Addr} (h0 : PySem.W.subIn K (.ref C) (.ref C) = some true) (hs : PySem.W.subIn K (.ref C) (.ref Y) = some false) (hc : PySem.W.isClsIn K Y = true) (ht : PySem.W.typeIn K (.ref Y) = some (.type "type")) : PySem.W.kitOne K (.ref C) (.ref Y) = some false := by
  have ne : C ≠ Y := fun z => by
    subst z
    rw [hs] at h0
    cases h0
  unfold PySem.W.kitOne PySem.W.kitCls
  have hi : (PySem.W.clsIn K Y).isSome = true := hc
  rw [if_neg (by simpa using ne)]
  simp only [hi, ht, beq_self_eq_true, Bool.and_self, if_true]
  exact hs
theorem kit_ty {K : Frg} {C : Addr} {n : String} {b : Bool} (hs : PySem.W.subIn K (.ref C) (.type n) = some b) (hm : PySem.W.kitMeta n = true) : PySem.W.kitOne K (.ref C) (.type n) = some b := by
  unfold PySem.W.kitOne PySem.W.kitCls
  rw [if_neg (by simp)]
  show (if PySem.W.kitMeta n = true then PySem.W.subIn K (.ref C) (.type n) else none) = some b
  rw [if_pos hm]
  exact hs
theorem kit_any {K : Frg} {C : Addr} : ∀ {l : List Value}, (∀ v ∈ l, PySem.W.kitOne K (.ref C) v = some false) → PySem.W.kitAny K (.ref C) l = some false
  | [], _ => rfl
  | v :: l, h => by
    unfold PySem.W.kitAny
    rw [h v List.mem_cons_self]
    exact kit_any fun x hx => h x (List.mem_cons_of_mem _ hx)
end Dl
namespace Dl
open PySem PySem.Spec PyProof.Rows L2
/-! ### spans in lists -/
def spH (s : Sp2) : List Int := [s.1, s.2]
theorem sp_ho (S : List Sp2) : S.map spD = (S.map spH).map hoD := by
  rw [List.map_map]
  rfl
theorem spH_in {S : List Sp2} {s : Sp2} : spH s ∈ S.map spH ↔ s ∈ S := by
  rw [List.mem_map]
  constructor
  · rintro ⟨t, ht, e⟩
    have : t = s := by
      obtain ⟨a, b⟩ := t
      obtain ⟨c, d⟩ := s
      simp only [spH, List.cons.injEq, and_true] at e
      rw [e.1, e.2]
    exact this ▸ ht
  · exact fun h => ⟨s, h, rfl⟩
theorem spH_inj {s t : Sp2} (e : spH s = spH t) : s = t := by
  obtain ⟨a, b⟩ := t
  obtain ⟨c, d⟩ := s
  simp only [spH, List.cons.injEq, and_true] at e
  rw [e.1, e.2]
theorem rd_inPs {μ : Mu} {e : D} {S : List Sp2} {x y : Int} {Q : DQ} {n : Bool} (s : Ls μ e (S.map spD)) (q : Q (.bl (if n then !decide ((x, y) ∈ S) else decide ((x, y) ∈ S))) μ) : fIn n (.tup [.int x, .int y]) e μ Q := by
  refine rd_inHos (h := [x, y]) (l := S.map spH) (by rw [sp_ho] at s; exact s) ?_
  rw [show decide ([x, y] ∈ S.map spH) = decide ((x, y) ∈ S) from decide_eq_decide.mpr (spH_in (s := (x, y)))]
  exact q
theorem erase_spH : ∀ (S : List Sp2) (s : Sp2), (S.map spH).erase (spH s) = (S.erase s).map spH
  | [], _ => rfl
  | t :: S, s => by
    rw [List.map_cons]
    by_cases c : t = s
    · subst c
      rw [List.erase_cons_head, List.erase_cons_head]
    · rw [List.erase_cons_tail (by simpa using fun e => c (spH_inj e)), List.erase_cons_tail (by simpa using c), List.map_cons, erase_spH S s]
theorem rd_removeP {μ : Mu} {l : Addr} {S : List Sp2} {x y : Int} {Q : DQ} (hl : μ l = some (.lst (S.map spD))) (hm : (x, y) ∈ S) (q : Q .non (put μ l (.lst ((S.erase (x, y)).map spD)))) : fRemove (.at l) [.tup [.int x, .int y]] μ Q := by
  refine rd_removeH (h := [x, y]) (ke := S.map spH) (by rw [hl, sp_ho]) (spH_in.mpr hm) ?_
  rw [show (S.map spH).erase [x, y] = (S.erase (x, y)).map spH from erase_spH S (x, y), ← sp_ho]
  exact q
theorem Cnt.none_of {tb : Tb Sp2} {S : List Sp2} (h : Cnt tb S) {s : Sp2} (n : s ∉ S) : getI tb s = none := by
  have hv := h.val s
  rw [List.count_eq_zero_of_not_mem n] at hv
  cases e : getI tb s with
  | none => rfl
  | some v =>
    have e2 : valI tb s = v := by unfold valI; rw [e]; rfl
    rw [e2] at hv
    unfold getI at e
    obtain ⟨q, hq, e3⟩ := Option.map_eq_some_iff.mp e
    exact absurd (e3.trans hv) (h.nz q (List.mem_of_find?_eq_some hq))
theorem Bare.ex_ {S : List Sp2} (hS : ∀ s ∈ S, 0 ≤ s.1 ∧ 0 ≤ s.2) : ∃ m, Bare S m := by
  obtain ⟨b, _, _, h⟩ := bare_head hS
  exact ⟨b, h⟩
theorem Bare.perm {S T : List Sp2} {m : Int} (h : Bare S m) (p : S.Perm T) : Bare T m := ⟨h.nn, by rw [← cr_perm p]; exact h.at_, fun x h0 h1 => by rw [← cr_perm p]; exact h.below x h0 h1⟩
/-! ### the walk from end to end -/
structure WkB (S : List Sp2) (l : Int) : Prop where
  nn : 0 ≤ l
  below : ∀ m, 0 ≤ m → m < l → 0 < cr S m
theorem WkB.zero {S : List Sp2} : WkB S 0 := ⟨Int.le_refl _, fun m a b => by omega⟩
theorem WkB.le {S : List Sp2} {l m : Int} (w : WkB S l) (h : Bare S m) : l ≤ m := by
  by_cases c : m < l
  · have := w.below m h.nn c
    have := h.at_
    omega
  · omega
theorem WkB.bare {S : List Sp2} {l : Int} (w : WkB S l) (e : (S.filter (crossP l)) = []) : Bare S l := ⟨w.nn, by unfold cr; rw [e]; rfl, w.below⟩
theorem WkB.next {S : List Sp2} {l g : Int} (w : WkB S l) (h : g ∈ (S.filter (crossP l)).map (·.2)) : WkB S g ∧ l < g := by
  obtain ⟨s, hs, rfl⟩ := List.mem_map.mp h
  obtain ⟨h1, h2⟩ := List.mem_filter.mp hs
  simp only [crossP, Bool.and_eq_true, decide_eq_true_eq] at h2
  refine ⟨⟨by have := w.nn; omega, fun m m0 m1 => ?_⟩, h2.2⟩
  by_cases c : m < l
  · exact w.below m m0 c
  · unfold cr
    refine List.length_pos_iff.mpr fun z => ?_
    have : s ∈ S.filter (crossP m) := List.mem_filter.mpr ⟨h1, by simp only [crossP, Bool.and_eq_true, decide_eq_true_eq]; omega⟩
    rw [z] at this
    cases this
end Dl
namespace Dl.M
open PySem PySem.Spec PyProof.Rows L2 Dl
def top (i : Nat) : Stmt := PySem.Challenge.pw_deepfall_k46_spans_in_any_order.main.body.getD i (.Pass ⟨0, 0, 0, 0⟩)
abbrev s_at : Stmt := top 16
abbrev s_pot : Stmt := top 17
abbrev s_Levels___init__ : Stmt := inClass (top 14) 0
abbrev s_draw : Stmt := top 18
abbrev s_among : Stmt := top 19
abbrev s_count : Stmt := top 20
abbrev s_span : Stmt := top 21
abbrev s_spans : Stmt := top 22
abbrev s_is_whole : Stmt := top 10
abbrev s_is_count : Stmt := top 11
abbrev s_want_count : Stmt := top 13
abbrev s_Levels_add_rise : Stmt := inClass (top 14) 1
abbrev s_Levels_add_span : Stmt := inClass (top 14) 2
abbrev s_Levels_put_span : Stmt := inClass (top 14) 3
abbrev s_Levels_spans : Stmt := inClass (top 14) 8
abbrev s_Levels___len__ : Stmt := inClass (top 14) 10
abbrev s_Levels_crossing : Stmt := inClass (top 14) 5
abbrev s_crossing : Stmt := top 24
abbrev s_Levels_least_bare : Stmt := inClass (top 14) 6
abbrev s_Levels_bare_below : Stmt := inClass (top 14) 7
abbrev s_bare : Stmt := top 25
abbrev s_NotIn___init__ : Stmt := inClass (top 8) 0
abbrev s_Levels_take_span : Stmt := inClass (top 14) 4
abbrev s_not_in : Stmt := top 26
abbrev s_right : Stmt := top 27
abbrev s_mixed : Stmt := top 23
abbrev s_Levels___eq__ : Stmt := inClass (top 14) 9
abbrev s_law : Stmt := top 28
structure Txt (K : Frg) (mg : Str → Option Value) (C_Levels C_NoHand C_NoSlot C_NoSuch C_NoThing C_NotHad C_NotIn C_StoreError : Addr) : Prop where
  cl_Levels : Cls K C_Levels
  na_Levels_often : NoAttr K C_Levels "often"
  na_Levels_rises : NoAttr K C_Levels "rises"
  na_NotIn_high : NoAttr K C_NotIn "high"
  na_NotIn_low : NoAttr K C_NotIn "low"
  g_Levels : mg "Levels" = some (.ref C_Levels)
  g_NoHand : mg "NoHand" = some (.ref C_NoHand)
  g_NoSlot : mg "NoSlot" = some (.ref C_NoSlot)
  g_NoSuch : mg "NoSuch" = some (.ref C_NoSuch)
  g_NoThing : mg "NoThing" = some (.ref C_NoThing)
  g_NotHad : mg "NotHad" = some (.ref C_NotHad)
  g_NotIn : mg "NotIn" = some (.ref C_NotIn)
  g_StoreError : mg "StoreError" = some (.ref C_StoreError)
  n_LookupError : mg "LookupError" = none
  n_abs : mg "abs" = none
  n_bool : mg "bool" = none
  n_divmod : mg "divmod" = none
  n_int : mg "int" = none
  n_isinstance : mg "isinstance" = none
  n_len : mg "len" = none
  n_list : mg "list" = none
  n_max : mg "max" = none
  n_min : mg "min" = none
  n_range : mg "range" = none
  n_repr : mg "repr" = none
  n_sorted : mg "sorted" = none
  n_sum : mg "sum" = none
  ex_NotIn : ExL K C_NotIn "LookupError.__new__" tlL
  ib_NotIn_LookupError : PySem.W.kitOne K (.ref C_NotIn) (.type "LookupError") = some true
  ic_NotIn : IsC K C_NotIn
  ik_NotIn_NoHand : PySem.W.kitOne K (.ref C_NotIn) (.ref C_NoHand) = some false
  ik_NotIn_NoSlot : PySem.W.kitOne K (.ref C_NotIn) (.ref C_NoSlot) = some false
  ik_NotIn_NoSuch : PySem.W.kitOne K (.ref C_NotIn) (.ref C_NoSuch) = some false
  ik_NotIn_NoThing : PySem.W.kitOne K (.ref C_NotIn) (.ref C_NoThing) = some false
  ik_NotIn_NotHad : PySem.W.kitOne K (.ref C_NotIn) (.ref C_NotHad) = some false
  ik_NotIn_StoreError : PySem.W.kitOne K (.ref C_NotIn) (.ref C_StoreError) = some false
  le : PySem.W.findCls K (.type "LookupError") (.type "type") "__init__" = some (.val (.builtin "LookupError.__init__"))
  xf_NotIn : XfC K C_NotIn
  xm_NotIn : PySem.W.exmOne K (.ref C_NotIn) (.ref C_NotIn) = some true
  ap_Levels : Apart K C_Levels
  ci_Levels : ClsI K C_Levels
variable {P : Program} {w : World} {K : Frg} {mg : Str → Option Value} {base : Heap} {C_Levels C_NoHand C_NoSlot C_NoSuch C_NoThing C_NotHad C_NotIn C_StoreError : Addr}
local macro_rules | `(tactic| walk_at "dl ne_tac") => `(tactic| first | assumption | (apply Ne.symm; assumption) | exact ne_no (by assumption) (by assumption) | exact Ne.symm (ne_no (by assumption) (by assumption)) | exact ne_at (by assumption) (by assumption) (by intro z; cases z))
local macro_rules | `(tactic| walk_at "dl mu") => `(tactic| first | assumption | exact put_same | (refine put_at ?_ (by walk_at "dl ne_tac"); walk_at "dl mu") | (refine put_no ?_ (by walk_at "dl ne_tac"); walk_at "dl mu"))
local macro_rules | `(tactic| walk_at "dl szl") => `(tactic| first | decide | (rw [sizeLine_eq]; omega) | (simp only [List.length_cons, List.length_nil, List.length_append, List.length_map, List.length_range, List.length_replicate]; rw [sizeLine_eq]; omega))
local macro_rules | `(tactic| walk_at "dl num") => `(tactic| first | (refine ⟨?_, ?_, ?_⟩ <;> first | decide | omega) | (refine ⟨?_, ?_⟩ <;> first | decide | omega) | decide | (refine Or.inr ⟨?_, ?_⟩ <;> first | decide | omega) | (refine Or.inl ⟨?_, ?_⟩ <;> first | decide | omega) | omega)
local macro_rules | `(tactic| walk_at "dl fl") => `(tactic| (refine' fl_lt ?h ?g; (case h => (repeat (first | exact fl_nil | apply fl_put | apply fl_cons))); (case g => decide)))
local macro_rules | `(tactic| walk_at "dl lk") => `(tactic| first | assumption | rfl | exact St.lkm (by assumption) (by decide +kernel))
local macro_rules | `(tactic| walk_at "dl go") => `(tactic| dsimp only [wC, wCons, wNil, wLst, wTup, wOp, wUn, wChain, wB, wAndT, wOrT, wNotT, wIfE, wAndV, wOrV, wNotV, wNext, wSeq, wDrop, wRet, wRetN, wIf, wSet, wBreak, wCont, wNever, wgName, wgSub, wAsg, wPar, wPar3, wIt, wItT, wRng1, fEq, fNe, wCl0, wClP, wClK, wClPK, wCall, wMeth, wMake, wYes, wDGet, wDIn, wDGet1, wDGet2, wDPut, wDDel, wDNewK, wDNewT, wFN, wML, wNoPart, wFld, wSetFld, wFldAug, fLenO, wPot, shutP, noX, noW, wSl, wSlS, wFor, wWhile, wLc_eq, wPart, wItems, wCut_eq, wZip, wZipS, wAug, wTupOf, wRev, wItS, wKeys, wEnum, wSlT, wDc, wWk, wDisp, wPairs, wValsL, wJoin, wDPop, wDelL, wMaxDf, wSortSet, f3Dic, wLenSet, wItemsL, wItRev, wDUpd, wRaiseL, wTryAs, wSuiteE, wXf, wIsX])
local macro_rules | `(tactic| walk_at "dl rd1") => `(tactic| first
  | ((with_reducible refine' rd_aug ?h ?_); (case h => rfl))
  | (with_reducible refine' rd_isInt ?_)
  | ((with_reducible refine' rd_addll ?h ?_); (case h => walk_at "dl szl"))
  | ((with_reducible refine' rd_rg ?h ?_); (case h => walk_at "dl num"))
  | ((with_reducible refine' rd_reprI ?h ?_); (case h => omega))
  | ((with_reducible refine' rd_dicK ?g ?_); (case g => walk_at "dl mu"))
  | ((with_reducible refine' rd_dicT ?g ?_); (case g => walk_at "dl mu"))
  | ((with_reducible refine' rd_getI ?g ?_); (case g => walk_at "dl mu"); (try rw [valI_getD]))
  | ((with_reducible refine' rd_getP ?g ?_); (case g => walk_at "dl mu"); (try rw [valI_getD]))
  | ((with_reducible refine' rd_putI ?g ?h ?_); (case g => walk_at "dl mu"); (case h => first | assumption | omega))
  | ((with_reducible refine' rd_putP ?g ?h ?_); (case g => walk_at "dl mu"); (case h => first | assumption | omega))
  | ((with_reducible refine' rd_dropI ?g ?h ?_); (case g => walk_at "dl mu"); (case h => first | assumption | exact some_of_val (by omega)))
  | ((with_reducible refine' rd_dropP ?g ?h ?_); (case g => walk_at "dl mu"); (case h => first | assumption | exact some_of_val (by omega)))
  | ((with_reducible refine' rd_dgetI ?g ?h ?_); (case g => walk_at "dl mu"); (case h => assumption))
  | ((with_reducible refine' rd_dgetP ?g ?h ?_); (case g => walk_at "dl mu"); (case h => assumption))
  | ((with_reducible refine' rd_name ?h ?_); (case h => rfl))
  | (with_reducible refine' rd_bl ?_)
  | (with_reducible refine' rd_i0 ?_)
  | (with_reducible refine' rd_addi ?_)
  | (with_reducible refine' rd_newF ?_)
  | ((with_reducible refine' rd_len ?h ?_); (case h => rfl))
  | ((with_reducible refine' rd_len1 ?h ?_); (case h => rfl))
  | ((with_reducible refine' rd_sz ?h ?_); (case h => walk_at "dl szl"))
  | (with_reducible refine' rd_eqi ?_)
  | (with_reducible refine' rd_eqs ?_)
  | (with_reducible refine' rd_eqb ?_)
  | ((with_reducible refine' rd_ic ?h ?_); (case h => walk_at "dl num"))
  | ((with_reducible refine' rd_muli ?h ?_); (case h => walk_at "dl num"))
  | (with_reducible refine' rd_neg ?_)
  | ((with_reducible refine' rd_isN ?h ?_); (case h => rfl))
  | ((with_reducible refine' rd_ixl ?h ?_); (case h => first | assumption | rfl))
  | ((with_reducible refine' rd_ixt ?h ?_); (case h => first | assumption | rfl))
  | ((with_reducible refine' rd_ixa ?g ?h ?_); (case g => walk_at "dl mu"); (case h => first | assumption | rfl))
  | ((with_reducible refine' rd_ixr ?g ?h ?_); (case g => walk_at "dl mu"); (case h => first | assumption | rfl))
  | (with_reducible refine' rd_lenl ?_)
  | (with_reducible refine' rd_lent ?_)
  | ((with_reducible refine' rd_lena ?g ?_); (case g => walk_at "dl mu"))
  | ((with_reducible refine' rd_lenr ?g ?_); (case g => walk_at "dl mu"))
  | (with_reducible refine' rd_abs ?_)
  | (with_reducible refine' rd_ii ?_)
  | ((with_reducible refine' rd_divmod ?h ?_); (case h => first | assumption | walk_at "dl num"))
  | ((with_reducible refine' rd_isiI (b := true) ?h ?_); (case h => decide +kernel))
  | ((with_reducible refine' rd_isiI (b := false) ?h ?_); (case h => decide +kernel))
  | ((with_reducible refine' rd_isiB (b := true) ?h ?_); (case h => decide +kernel))
  | ((with_reducible refine' rd_isiB (b := false) ?h ?_); (case h => decide +kernel))
  | ((with_reducible refine' rd_isiS (b := true) ?h ?_); (case h => decide +kernel))
  | ((with_reducible refine' rd_isiS (b := false) ?h ?_); (case h => decide +kernel))
  | ((with_reducible refine' rd_isiN (b := true) ?h ?_); (case h => decide +kernel))
  | ((with_reducible refine' rd_isiN (b := false) ?h ?_); (case h => decide +kernel))
  | ((with_reducible refine' rd_isiT (b := true) ?h ?_); (case h => decide +kernel))
  | ((with_reducible refine' rd_isiT (b := false) ?h ?_); (case h => decide +kernel))
  | ((with_reducible refine' rd_isiL (b := true) ?h ?_); (case h => decide +kernel))
  | ((with_reducible refine' rd_isiL (b := false) ?h ?_); (case h => decide +kernel))
  | ((with_reducible refine' rd_set ?g ?h ?_); (case g => walk_at "dl mu"); (case h => rfl))
  | ((with_reducible refine' rd_gtup ?h ?_); (case h => rfl))
  | ((with_reducible refine' rd_gcons ?_); (try dsimp only [wgSub, wgName, wC]))
  | (with_reducible refine' rd_gnil ?_)
  | ((with_reducible refine' rd_fld ?g ?h ?_); (case g => walk_at "dl mu"); (case h => walk_at "dl lk"))
  | ((with_reducible refine' rd_setfld ?g ?h ?_); (case g => walk_at "dl mu"); (case h => first | decide | walk_at "dl fl"))
  | ((with_reducible refine' rd_meth ?g ?h ?_); (case g => walk_at "dl mu"); (case h => walk_at "dl lk"))
  | (with_reducible refine' rd_itl ?_)
  | ((with_reducible refine' rd_ita ?g ?_); (case g => walk_at "dl mu"))
  | ((with_reducible refine' rd_itr ?g ?_); (case g => walk_at "dl mu"))
  | ((with_reducible refine' rd_lsa ?g ?_); (case g => walk_at "dl mu"))
  | ((with_reducible refine' rd_rng ?h ?_); (case h => walk_at "dl num"))
  | ((with_reducible refine' rd_append ?g ?h ?_); (case g => walk_at "dl mu"); (case h => first | omega | (simp; omega)))
  | ((with_reducible refine' rd_rev ?g ?_); (case g => walk_at "dl mu")))
local macro_rules | `(tactic| walk_at "dl rd") => `(tactic| repeat (first | walk_at "dl rd1" | walk_at "dl go" | dsimp only [wgName, wPart]))
local macro_rules | `(tactic| walk_at "dl kb") => `(tactic| repeat (first | walk_at "dl rd1" | walk_at "dl go" | dsimp only [wgName, wPart] | ((with_reducible refine' rd_brF ?h ?_); (case h => first | decide | rfl)) | ((with_reducible refine' rd_brT ?h ?_); (case h => first | decide | rfl))))
local macro_rules | `(tactic| walk_at "dl less") => `(tactic| first | assumption | exact Less.refl _ | (refine Less.put ?_ (by assumption); walk_at "dl less"))
local macro_rules | `(tactic| walk_at "dl put_eq") => `(tactic| (funext c; simp only [put]; repeat' split) <;> (first | rfl | (exfalso; omega) | (subst_vars; first | rfl | (exfalso; first | contradiction | omega))))
def okS (b : Int) (s : Sp2) : Prop := 0 ≤ s.1 ∧ 0 ≤ s.2 ∧ s.1 ≤ b ∧ s.2 ≤ b
theorem ne_of_emptyF {α : Type} {S : List α} (h : (!S.isEmpty) = true) : S ≠ [] := fun z => by subst z; cases h
/-- the object at t: its two dicts at a and b -/
structure Lv (C : Addr) (μ : Mu) (t a b : Addr) (oft : Tb Sp2) (rs : Tb Int) : Prop where
  ob : μ t = some (.ins C [("often", .at a), ("rises", .at b)])
  of : μ a = some (.dT (enc kP oft))
  ri : μ b = some (.dK (enc kI rs))
def sp_at : SpD := fun ds μ Q _ => match ds with
  | [.at a, .int k] => ∃ ns : List Int, μ a = some (.ro (ns.map .int)) ∧ 0 ≤ k ∧ ∀ z : Int, 0 ≤ z → Q (.int z) μ
  | _ => False
theorem sc_at : FnScope ["_law_script", "_law_k"] ["_law_script", "_law_k"] (defScope s_at) := ⟨rfl, rfl, rfl, by decide +kernel, rfl, by decide +kernel, by decide +kernel⟩
theorem g_at (T : Txt K mg C_Levels C_NoHand C_NoSlot C_NoSuch C_NoThing C_NotHad C_NotIn C_StoreError) (d_at : Def0 K mg "_law_at" s_at)  : CalD P w K mg base 1 "_law_at" s_at ["_law_script", "_law_k"] sp_at := by
  refine calD d_at sc_at (fun ds μ Q E h => by unfold sp_at at h; split at h <;> first | rfl | exact h.elim) ?_
  intro f cdv A outer s H EX ds μ Q E hg hr tk hp h
  obtain ⟨hu, hu1, hu2⟩ := rooms hr
  refine ⟨_, (jss_one (js_ret (je_if (jt_cmp od_lt (je_name 1) (je_cb cd_len T.n_len (ja_cons (je_name 0) ja_nil))) (je_cb cd_abs T.n_abs (ja_cons (je_ix id_ix (je_name 0) (je_name 1)) ja_nil)) je_int))), ?_⟩
  clear hr hg tk hp hu hu1 hu2
  unfold sp_at at h
  split at h
  case h_2 => exact h.elim
  rename_i a k
  obtain ⟨ns, ha, hk, q⟩ := h
  walk_at "dl go"
  walk_at "dl rd"
  refine rd_brD (fun hl => ?_) fun _ => wkR.same (q 0 (Int.le_refl 0))
  rw [List.length_map] at hl
  have e : atI (ns.map D.int) k = some (.int (ns[k.toNat]'(by omega))) := by
    have e1 : ixN (ns.map D.int).length k = some k.toNat := by
      unfold ixN
      rw [if_pos hk, if_pos (by rw [List.length_map]; exact hl)]
    unfold atI
    rw [e1]
    show (ns.map D.int)[k.toNat]? = _
    rw [List.getElem?_map, List.getElem?_eq_getElem (by omega)]
    rfl
  walk_at "dl rd"
  exact wkR.same (q _ (by split <;> omega))
def sp_pot : SpD := fun ds μ Q _ => match ds with
  | [.at a, .int k] => ∃ ns : List Int, μ a = some (.ro (ns.map .int)) ∧ 0 ≤ k ∧ k ≤ 100 ∧ ∀ p, μ p = none → Q (.at p) (put μ p .pot)
  | _ => False
theorem sc_pot : FnScope ["_law_script", "_law_k", "_law_cell"] ["_law_script", "_law_k"] (defScope s_pot) := ⟨rfl, rfl, rfl, by decide +kernel, rfl, by decide +kernel, by decide +kernel⟩
theorem g_pot (T : Txt K mg C_Levels C_NoHand C_NoSlot C_NoSuch C_NoThing C_NotHad C_NotIn C_StoreError) (d_pot : Def0 K mg "_law_pot" s_pot) (c_at : CalD P w K mg base 1 "_law_at" s_at ["_law_script", "_law_k"] sp_at) : CalD P w K mg base 2 "_law_pot" s_pot ["_law_script", "_law_k"] sp_pot := by
  refine calD d_pot sc_pot (fun ds μ Q E h => by unfold sp_pot at h; split at h <;> first | rfl | exact h.elim) ?_
  intro f cdv A outer s H EX ds μ Q E hg hr tk hp h
  obtain ⟨hu, hu1, hu2⟩ := rooms hr
  refine ⟨_, (jss_cons (js_set 2 (jf (ks := []) (n := 2) (idx := []) c_at hr (by decide) hg tkN (fun _ _ _ _ _ _ us ws h1 h2 => match us, ws, h1, h2 with | [_, _], [], _, _ => rfl) (jc_p (ja_cons (je_name 0) (ja_cons (je_name 1) ja_nil)))) sc_pot.nd)
      (jss_one (js_ret (je_lst true (ja_cons (je_cb (cd_max2 rfl) T.n_max (ja_cons je_int (ja_cons (je_op od_sub (je_name 2) (je_op od_pow je_int je_int)) ja_nil))) (ja_cons (je_op (od_add false) (je_op od_mod (je_op (od_mul false) (je_op (od_add false) (je_op od_mod (je_name 2) je_int) je_int) (je_op od_pow (je_op (od_add false) (je_name 1) je_int) je_int)) je_int) je_int) ja_nil)))))), ?_⟩
  clear hr hg tk hp hu hu1 hu2
  unfold sp_pot at h
  split at h
  case h_2 => exact h.elim
  rename_i a k
  obtain ⟨ns, ha, hk, hk2, q⟩ := h
  walk_at "dl go"
  walk_at "dl rd"
  refine ⟨ns, ha, hk, fun z hz => ?_⟩
  walk_at "dl rd"
  refine rd_newT fun l hl => ?_
  refine wkR.wk (Wkn.pot put_same ?_) ?_
  · exact ⟨by omega, by omega⟩
  · rw [put_put]
    exact wkR.same (q l hl)
def sp_Levels___init__ (C_Levels : Addr) : SpD := fun ds μ Q _ => match ds with
  | [.at t] => μ t = some (.ins C_Levels []) ∧ ∀ a b, μ a = none → μ b = none → b ≠ a → Lv C_Levels (put (put (put μ t (.ins C_Levels [("often", .at a), ("rises", .at b)])) a (.dT [])) b (.dK [])) t a b [] [] → Q .non (put (put (put μ t (.ins C_Levels [("often", .at a), ("rises", .at b)])) a (.dT [])) b (.dK []))
  | _ => False
theorem sc_Levels___init__ : FnScope ["self"] ["self"] (defScope s_Levels___init__) := ⟨rfl, rfl, rfl, by decide +kernel, rfl, by decide +kernel, by decide +kernel⟩
theorem g_Levels___init__ (T : Txt K mg C_Levels C_NoHand C_NoSlot C_NoSuch C_NoThing C_NotHad C_NotIn C_StoreError) (d_Levels___init__ : ∃ (f : Addr) (fd : FuncData), Fun K "__init__" "Levels.__init__" s_Levels___init__ f fd ∧ Mk K C_Levels f ∧ mg "Levels" = some (.ref C_Levels))  : MakD P w K mg base 1 "Levels" C_Levels "Levels.__init__" s_Levels___init__ ["self"] (sp_Levels___init__ C_Levels) := by
  refine makD d_Levels___init__ sc_Levels___init__ (fun ds μ Q E h => by unfold sp_Levels___init__ at h; split at h <;> first | rfl | exact h.elim) ?_
  intro f cdv A outer s H EX ds μ Q E hg hr tk hp h
  obtain ⟨hu, hu1, hu2⟩ := rooms hr
  refine ⟨_, (jss_cons (js_fld T.cl_Levels T.na_Levels_often (je_name 0) je_dnewT)
      (jss_one (js_fld T.cl_Levels T.na_Levels_rises (je_name 0) je_dnewK))), ?_⟩
  clear hr hg tk hp hu hu1 hu2
  unfold sp_Levels___init__ at h
  split at h
  case h_2 => exact h.elim
  rename_i t
  obtain ⟨ht, q⟩ := h
  walk_at "dl go"
  intro a ha
  have n1 : t ≠ a := ne_no ht ha
  walk_at "dl rd"
  intro b hb
  obtain ⟨n2, hb⟩ := no_put hb
  obtain ⟨n3, hb⟩ := no_put hb
  walk_at "dl rd"
  have e : put (put (put (put μ a (.dT [])) t (.ins C_Levels (putFD "often" (.at a) []))) b (.dK [])) t (.ins C_Levels (putFD "rises" (.at b) (putFD "often" (.at a) []))) = put (put (put μ t (.ins C_Levels [("often", .at a), ("rises", .at b)])) a (.dT [])) b (.dK []) := by
    rw [show putFD "rises" (.at b) (putFD "often" (.at a) []) = [(("often" : Str), D.at a), (("rises" : Str), D.at b)] from by rfl]
    walk_at "dl put_eq"
  rw [e]
  exact wkR.same (q a b ha hb n3 ⟨by rw [put_ne (Ne.symm n2), put_ne n1, put_same], by rw [put_ne (Ne.symm n3), put_same]; rfl, by rw [put_same]; rfl⟩)
def sp_draw : SpD := fun ds μ Q _ => match ds with
  | [.at p, .int m] => μ p = some .pot ∧ 0 < m ∧ m ≤ 10 ^ 30 ∧ ∀ d : Int, 0 ≤ d → d < m → Q (.int d) μ
  | _ => False
theorem sc_draw : FnScope ["_law_pot_here", "_law_many", "_law_digit"] ["_law_pot_here", "_law_many"] (defScope s_draw) := ⟨rfl, rfl, rfl, by decide +kernel, rfl, by decide +kernel, by decide +kernel⟩
theorem g_draw (T : Txt K mg C_Levels C_NoHand C_NoSlot C_NoSuch C_NoThing C_NotHad C_NotIn C_StoreError) (d_draw : Def0 K mg "_law_draw" s_draw)  : CalD P w K mg base 1 "_law_draw" s_draw ["_law_pot_here", "_law_many"] sp_draw := by
  refine calD d_draw sc_draw (fun ds μ Q E h => by unfold sp_draw at h; split at h <;> first | rfl | exact h.elim) ?_
  intro f cdv A outer s H EX ds μ Q E hg hr tk hp h
  obtain ⟨hu, hu1, hu2⟩ := rooms hr
  refine ⟨_, jss_pot (jss_cons (js_if (jt_cmp od_gt (je_ix id_ix (je_name 0) je_int) je_int) (jss_cons (js_asg (je_cb cd_divmod T.n_divmod (ja_cons (je_ix id_ix (je_name 0) je_int) (ja_cons (je_name 1) ja_nil))) (jg_tup 2 rfl (jgs_cons (jg_sub (je_name 0) je_int set_lst) (jgs_cons (jg_name 2 sc_draw.nd) jgs_nil))))
      (jss_one (js_ret (je_name 2)))) jss_nil)
      (jss_cons (js_asg (je_op od_mod (je_op (od_add false) (je_op (od_mul false) (je_ix id_ix (je_name 0) je_int) je_int) je_int) je_int) (jg_sub (je_name 0) je_int set_lst))
      (jss_one (js_ret (je_op od_mod (je_op od_fdiv (je_op od_mod (je_op (od_mul false) (je_ix id_ix (je_name 0) je_int) (je_ix id_ix (je_name 0) je_int)) je_int) je_int) (je_name 1)))))), ?_⟩
  clear hr hg tk hp hu hu1 hu2
  unfold sp_draw at h
  split at h
  case h_2 => exact h.elim
  rename_i p m
  obtain ⟨hp1, h0, h1, q⟩ := h
  have back : ∀ d : Int, 0 ≤ d → d < m → wkR Q (.int d) (put (put (put μ p (.lst [.int 0, .int 0])) p (.lst [.int 0, .int 0])) p .pot) := fun d a b => by
    rw [put_put, put_put, put_self hp1]
    exact wkR.same (q d a b)
  have back2 : ∀ (u v : O) (d : Int), 0 ≤ d → d < m → wkR Q (.int d) (put (put (put μ p u) p v) p .pot) := fun u v d a b => by
    have := back d a b
    rw [put_put, put_put] at this ⊢
    exact this
  walk_at "dl go"
  refine ⟨p, hp1, fun x y ok => ?_⟩
  walk_at "dl rd"
  refine rd_brD (fun hx => ?_) fun hx => ?_
  · have hdv : CDivW x m := divw h0 h1
    walk_at "dl rd"
    refine ⟨x / m, y, put_same, ok, back2 _ _ _ (Int.emod_nonneg _ (by omega)) (Int.emod_lt_of_pos _ h0)⟩
  · have oy := ok.1
    have oy2 := ok.2
    walk_at "dl rd"
    refine ⟨x, (y * 48271 + 20011) % 2147483647, put_same, ⟨by omega, by omega⟩, back2 _ _ _ (Int.emod_nonneg _ (by omega)) (Int.emod_lt_of_pos _ h0)⟩
def sp_among : SpD := fun ds μ Q _ => match ds with
  | [.at p, e] => ∃ xs : List D, μ p = some .pot ∧ Ls μ e xs ∧ xs ≠ [] ∧ xs.length ≤ 100000 ∧ ∀ d ∈ xs, Q d μ
  | _ => False
theorem sc_among : FnScope ["_law_pot_here", "_law_some"] ["_law_pot_here", "_law_some"] (defScope s_among) := ⟨rfl, rfl, rfl, by decide +kernel, rfl, by decide +kernel, by decide +kernel⟩
theorem g_among (T : Txt K mg C_Levels C_NoHand C_NoSlot C_NoSuch C_NoThing C_NotHad C_NotIn C_StoreError) (d_among : Def0 K mg "_law_among" s_among) (c_draw : CalD P w K mg base 1 "_law_draw" s_draw ["_law_pot_here", "_law_many"] sp_draw) : CalD P w K mg base 2 "_law_among" s_among ["_law_pot_here", "_law_some"] sp_among := by
  refine calD d_among sc_among (fun ds μ Q E h => by unfold sp_among at h; split at h <;> first | rfl | exact h.elim) ?_
  intro f cdv A outer s H EX ds μ Q E hg hr tk hp h
  obtain ⟨hu, hu1, hu2⟩ := rooms hr
  refine ⟨_, (jss_one (js_ret (je_ix id_ix (je_name 1) (jf (ks := []) (n := 2) (idx := []) c_draw hr (by decide) hg tkN (fun _ _ _ _ _ _ us ws h1 h2 => match us, ws, h1, h2 with | [_, _], [], _, _ => rfl) (jc_p (ja_cons (je_name 0) (ja_cons (je_cb cd_len T.n_len (ja_cons (je_name 1) ja_nil)) ja_nil))))))), ?_⟩
  clear hr hg tk hp hu hu1 hu2
  unfold sp_among at h
  split at h
  case h_2 => exact h.elim
  rename_i p e
  obtain ⟨xs, hp1, he, hne, hl, q⟩ := h
  have h0 : 0 < xs.length := List.length_pos_iff.mpr hne
  walk_at "dl go"
  walk_at "dl rd"
  refine rd_lenL he ?_
  walk_at "dl rd"
  refine ⟨hp1, by omega, by omega, fun k k0 k1 => ?_⟩
  refine rd_ixL he (atI_ok k0 k1) ?_
  exact wkR.same (q _ (List.getElem_mem _))
def sp_count : SpD := fun ds μ Q _ => match ds with
  | [.at p] => μ p = some .pot ∧ ∀ f : Int, 0 ≤ f → f ≤ 10 ^ 29 → Q (.int f) μ
  | _ => False
theorem sc_count : FnScope ["_law_pot_here", "_law_far"] ["_law_pot_here"] (defScope s_count) := ⟨rfl, rfl, rfl, by decide +kernel, rfl, by decide +kernel, by decide +kernel⟩
theorem g_count (T : Txt K mg C_Levels C_NoHand C_NoSlot C_NoSuch C_NoThing C_NotHad C_NotIn C_StoreError) (d_count : Def0 K mg "_law_count" s_count) (c_draw : CalD P w K mg base 1 "_law_draw" s_draw ["_law_pot_here", "_law_many"] sp_draw) : CalD P w K mg base 2 "_law_count" s_count ["_law_pot_here"] sp_count := by
  refine calD d_count sc_count (fun ds μ Q E h => by unfold sp_count at h; split at h <;> first | rfl | exact h.elim) ?_
  intro f cdv A outer s H EX ds μ Q E hg hr tk hp h
  obtain ⟨hu, hu1, hu2⟩ := rooms hr
  refine ⟨_, (jss_cons (js_set 1 (je_op od_sub (je_op od_pow je_int je_int) (jf (ks := []) (n := 2) (idx := []) c_draw hr (by decide) hg tkN (fun _ _ _ _ _ _ us ws h1 h2 => match us, ws, h1, h2 with | [_, _], [], _, _ => rfl) (jc_p (ja_cons (je_name 0) (ja_cons (je_op od_pow je_int je_int) ja_nil))))) sc_count.nd)
      (jss_one (js_ret (je_ix id_ix (je_lst false (ja_cons (jf (ks := []) (n := 2) (idx := []) c_draw hr (by decide) hg tkN (fun _ _ _ _ _ _ us ws h1 h2 => match us, ws, h1, h2 with | [_, _], [], _, _ => rfl) (jc_p (ja_cons (je_name 0) (ja_cons je_int ja_nil)))) (ja_cons (jf (ks := []) (n := 2) (idx := []) c_draw hr (by decide) hg tkN (fun _ _ _ _ _ _ us ws h1 h2 => match us, ws, h1, h2 with | [_, _], [], _, _ => rfl) (jc_p (ja_cons (je_name 0) (ja_cons je_int ja_nil)))) (ja_cons (jf (ks := []) (n := 2) (idx := []) c_draw hr (by decide) hg tkN (fun _ _ _ _ _ _ us ws h1 h2 => match us, ws, h1, h2 with | [_, _], [], _, _ => rfl) (jc_p (ja_cons (je_name 0) (ja_cons je_int ja_nil)))) (ja_cons (je_name 1) ja_nil))))) (jf (ks := []) (n := 2) (idx := []) c_draw hr (by decide) hg tkN (fun _ _ _ _ _ _ us ws h1 h2 => match us, ws, h1, h2 with | [_, _], [], _, _ => rfl) (jc_p (ja_cons (je_name 0) (ja_cons je_int ja_nil)))))))), ?_⟩
  clear hr hg tk hp hu hu1 hu2
  unfold sp_count at h
  split at h
  case h_2 => exact h.elim
  rename_i p
  obtain ⟨hp1, q⟩ := h
  walk_at "dl go"
  walk_at "dl rd"
  refine ⟨hp1, by decide, by decide, fun a a0 a1 => ?_⟩
  walk_at "dl rd"
  refine ⟨hp1, by decide, by decide, fun b b0 b1 => ?_⟩
  walk_at "dl rd"
  refine ⟨hp1, by decide, by decide, fun c c0 c1 => ?_⟩
  walk_at "dl rd"
  refine ⟨hp1, by decide, by decide, fun d d0 d1 => ?_⟩
  walk_at "dl rd"
  refine ⟨hp1, by decide, by decide, fun k k0 k1 => ?_⟩
  have a2 : a < 10 ^ 29 := a1
  obtain ⟨f, hm, hf⟩ := ints_at (ns := [b, c, d, 10 ^ 29 - a]) k0 k1
  refine rd_ixl hf ?_
  simp only [List.mem_cons, List.not_mem_nil, or_false] at hm
  exact wkR.same (q f (by omega) (by omega))
def sp_span : SpD := fun ds μ Q _ => match ds with
  | [.at p, e] => ∃ (S : List Sp2) (b : Int), μ p = some .pot ∧ Ls μ e (S.map spD) ∧ S.length ≤ 10000 ∧ 10 ^ 30 ≤ b ∧ b ≤ 10 ^ 36 ∧ (∀ s ∈ S, okS b s) ∧ ∀ s : Sp2, okS (b + 10) s → Q (spD s) μ
  | _ => False
theorem sc_span : FnScope ["_law_pot_here", "_law_taken", "_law_way", "_law_start", "_law_goal", "_law_some"] ["_law_pot_here", "_law_taken"] (defScope s_span) := ⟨rfl, rfl, rfl, by decide +kernel, rfl, by decide +kernel, by decide +kernel⟩
theorem g_span (T : Txt K mg C_Levels C_NoHand C_NoSlot C_NoSuch C_NoThing C_NotHad C_NotIn C_StoreError) (d_span : Def0 K mg "_law_span" s_span) (c_draw : CalD P w K mg base 1 "_law_draw" s_draw ["_law_pot_here", "_law_many"] sp_draw) (c_among : CalD P w K mg base 2 "_law_among" s_among ["_law_pot_here", "_law_some"] sp_among) (c_count : CalD P w K mg base 2 "_law_count" s_count ["_law_pot_here"] sp_count) : CalD P w K mg base 3 "_law_span" s_span ["_law_pot_here", "_law_taken"] sp_span := by
  refine calD d_span sc_span (fun ds μ Q E h => by unfold sp_span at h; split at h <;> first | rfl | exact h.elim) ?_
  intro f cdv A outer s H EX ds μ Q E hg hr tk hp h
  obtain ⟨hu, hu1, hu2⟩ := rooms hr
  refine ⟨_, (jss_cons (js_set 2 (jf (ks := []) (n := 2) (idx := []) c_draw hr (by decide) hg tkN (fun _ _ _ _ _ _ us ws h1 h2 => match us, ws, h1, h2 with | [_, _], [], _, _ => rfl) (jc_p (ja_cons (je_name 0) (ja_cons je_int ja_nil)))) sc_span.nd)
      (jss_cut (js_if (jt_w (jw_and (jt_cmp (od_ne hu) (je_name 1) (je_lst false ja_nil)) (jw_and1 (jt_cmp (od_eq hu) (je_name 2) je_int)))) (jss_one (js_ret (jf (ks := []) (n := 2) (idx := []) c_among hr (by decide) hg tkN (fun _ _ _ _ _ _ us ws h1 h2 => match us, ws, h1, h2 with | [_, _], [], _, _ => rfl) (jc_p (ja_cons (je_name 0) (ja_cons (je_name 1) ja_nil)))))) jss_nil)
      (jss_cut (js_if (jt_w (jw_and (jt_cmp (od_ne hu) (je_name 1) (je_lst false ja_nil)) (jw_and1 (jt_cmp (od_eq hu) (je_name 2) je_int)))) (jss_cons (js_asg (jf (ks := []) (n := 2) (idx := []) c_among hr (by decide) hg tkN (fun _ _ _ _ _ _ us ws h1 h2 => match us, ws, h1, h2 with | [_, _], [], _, _ => rfl) (jc_p (ja_cons (je_name 0) (ja_cons (je_name 1) ja_nil)))) (jg_tup 2 rfl (jgs_cons (jg_name 3 sc_span.nd) (jgs_cons (jg_name 4 sc_span.nd) jgs_nil))))
      (jss_one (js_ret (je_tup (ja_cons (je_name 4) (ja_cons (je_op (od_add false) (je_name 4) (jf (ks := []) (n := 2) (idx := []) c_draw hr (by decide) hg tkN (fun _ _ _ _ _ _ us ws h1 h2 => match us, ws, h1, h2 with | [_, _], [], _, _ => rfl) (jc_p (ja_cons (je_name 0) (ja_cons je_int ja_nil))))) ja_nil)))))) jss_nil)
      (jss_cut (js_if (jt_w (jw_and (jt_cmp (od_ne hu) (je_name 1) (je_lst false ja_nil)) (jw_and1 (jt_cmp (od_eq hu) (je_name 2) je_int)))) (jss_cons (js_asg (jf (ks := []) (n := 2) (idx := []) c_among hr (by decide) hg tkN (fun _ _ _ _ _ _ us ws h1 h2 => match us, ws, h1, h2 with | [_, _], [], _, _ => rfl) (jc_p (ja_cons (je_name 0) (ja_cons (je_name 1) ja_nil)))) (jg_tup 2 rfl (jgs_cons (jg_name 3 sc_span.nd) (jgs_cons (jg_name 4 sc_span.nd) jgs_nil))))
      (jss_one (js_ret (je_tup (ja_cons (je_name 3) (ja_cons (je_cb (cd_max2 rfl) T.n_max (ja_cons je_int (ja_cons (je_op od_sub (je_op (od_add false) (je_name 4) (jf (ks := []) (n := 2) (idx := []) c_draw hr (by decide) hg tkN (fun _ _ _ _ _ _ us ws h1 h2 => match us, ws, h1, h2 with | [_, _], [], _, _ => rfl) (jc_p (ja_cons (je_name 0) (ja_cons je_int ja_nil))))) je_int) ja_nil))) ja_nil)))))) jss_nil)
      (jss_cons (js_set 3 (jf (ks := []) (n := 1) (idx := []) c_count hr (by decide) hg tkN (fun _ _ _ _ _ _ us ws h1 h2 => match us, ws, h1, h2 with | [_], [], _, _ => rfl) (jc_p (ja_cons (je_name 0) ja_nil))) sc_span.nd)
      (jss_cons (js_set 5 (je_lst false (ja_cons (je_tup (ja_cons (je_name 3) (ja_cons (je_op (od_add false) (je_name 3) (jf (ks := []) (n := 1) (idx := []) c_count hr (by decide) hg tkN (fun _ _ _ _ _ _ us ws h1 h2 => match us, ws, h1, h2 with | [_], [], _, _ => rfl) (jc_p (ja_cons (je_name 0) ja_nil)))) ja_nil))) (ja_cons (je_tup (ja_cons (je_name 3) (ja_cons (je_op (od_add false) (je_name 3) (jf (ks := []) (n := 2) (idx := []) c_draw hr (by decide) hg tkN (fun _ _ _ _ _ _ us ws h1 h2 => match us, ws, h1, h2 with | [_, _], [], _, _ => rfl) (jc_p (ja_cons (je_name 0) (ja_cons je_int ja_nil))))) ja_nil))) (ja_cons (je_tup (ja_cons (je_name 3) (ja_cons (jf (ks := []) (n := 1) (idx := []) c_count hr (by decide) hg tkN (fun _ _ _ _ _ _ us ws h1 h2 => match us, ws, h1, h2 with | [_], [], _, _ => rfl) (jc_p (ja_cons (je_name 0) ja_nil))) ja_nil))) ja_nil)))) sc_span.nd)
      (jss_one (js_ret (je_ix id_ix (je_name 5) (jf (ks := []) (n := 2) (idx := []) c_draw hr (by decide) hg tkN (fun _ _ _ _ _ _ us ws h1 h2 => match us, ws, h1, h2 with | [_, _], [], _, _ => rfl) (jc_p (ja_cons (je_name 0) (ja_cons je_int ja_nil))))))))))))), ?_⟩
  clear hr hg tk hp hu hu1 hu2
  unfold sp_span at h
  split at h
  case h_2 => exact h.elim
  rename_i p e
  obtain ⟨S, b, hp1, he, hl, b0, b1, hS, q⟩ := h
  walk_at "dl go"
  walk_at "dl rd"
  refine ⟨hp1, by decide, by decide, fun w w0 w1 => ?_⟩
  walk_at "dl rd"
  refine ⟨fun ρ' μ' => μ' = μ ∧ ρ' = [some (.at p), some e, some (.int w), none, none, none], ?_, ?_⟩
  · walk_at "dl rd"
    refine rd_neL he (rss_sp S) ?_
    refine rd_br (fun hw => ?_) fun hw => rd_brF rfl ⟨rfl, rfl⟩
    walk_at "dl rd"
    refine rd_brD (fun hz => ?_) fun hz => ⟨rfl, rfl⟩
    walk_at "dl rd"
    refine ⟨S.map spD, hp1, he, ne_of_emptyF hw, by simp; omega, fun d hd => ?_⟩
    obtain ⟨s, hs, rfl⟩ := List.mem_map.mp hd
    have h1 := hS s hs
    unfold okS at h1
    exact wkR.same (q s (by unfold okS; omega))
  · rintro ρ' μ' ⟨hμ, rfl⟩
    subst μ'
    refine ⟨fun ρ' μ' => μ' = μ ∧ ρ' = [some (.at p), some e, some (.int w), none, none, none], ?_, ?_⟩
    · walk_at "dl rd"
      refine rd_neL he (rss_sp S) ?_
      refine rd_br (fun hw => ?_) fun hw => rd_brF rfl ⟨rfl, rfl⟩
      walk_at "dl rd"
      refine rd_brD (fun hz => ?_) fun hz => ⟨rfl, rfl⟩
      walk_at "dl rd"
      refine ⟨S.map spD, hp1, he, ne_of_emptyF hw, by simp; omega, fun d hd => ?_⟩
      obtain ⟨s, hs, rfl⟩ := List.mem_map.mp hd
      have h1 := hS s hs
      unfold okS at h1
      unfold spD
      walk_at "dl rd"
      refine ⟨hp1, by decide, by decide, fun u u0 u1 => ?_⟩
      walk_at "dl rd"
      exact wkR.same (q (s.2, s.2 + u) (by unfold okS; simp only; omega))
    · rintro ρ' μ' ⟨hμ, rfl⟩
      subst μ'
      refine ⟨fun ρ' μ' => μ' = μ ∧ ρ' = [some (.at p), some e, some (.int w), none, none, none], ?_, ?_⟩
      · walk_at "dl rd"
        refine rd_neL he (rss_sp S) ?_
        refine rd_br (fun hw => ?_) fun hw => rd_brF rfl ⟨rfl, rfl⟩
        walk_at "dl rd"
        refine rd_brD (fun hz => ?_) fun hz => ⟨rfl, rfl⟩
        walk_at "dl rd"
        refine ⟨S.map spD, hp1, he, ne_of_emptyF hw, by simp; omega, fun d hd => ?_⟩
        obtain ⟨s, hs, rfl⟩ := List.mem_map.mp hd
        have h1 := hS s hs
        unfold okS at h1
        unfold spD
        walk_at "dl rd"
        refine ⟨hp1, by decide, by decide, fun u u0 u1 => ?_⟩
        walk_at "dl rd"
        have e1 : 0 ≤ (if s.2 + u - 1 > 0 then s.2 + u - 1 else 0) ∧ (if s.2 + u - 1 > 0 then s.2 + u - 1 else 0) ≤ b + 10 := by split <;> omega
        exact wkR.same (q (s.1, if s.2 + u - 1 > 0 then s.2 + u - 1 else 0) (by unfold okS; exact ⟨h1.1, e1.1, by show s.1 ≤ b + 10; omega, e1.2⟩))
      · rintro ρ' μ' ⟨hμ, rfl⟩
        subst μ'
        walk_at "dl rd"
        refine ⟨hp1, fun f f0 f1 => ?_⟩
        walk_at "dl rd"
        refine ⟨hp1, fun g g0 g1 => ?_⟩
        walk_at "dl rd"
        refine ⟨hp1, by decide, by decide, fun u u0 u1 => ?_⟩
        walk_at "dl rd"
        refine ⟨hp1, fun k k0 k1 => ?_⟩
        walk_at "dl rd"
        refine ⟨hp1, by decide, by decide, fun i i0 i1 => ?_⟩
        obtain ⟨s, hm, hf⟩ := atI_map spD (xs := [(f, f + g), (f, f + u), (f, k)]) i0 i1
        refine rd_ixl hf ?_
        simp only [List.mem_cons, List.not_mem_nil, or_false] at hm
        refine wkR.same (q s ?_)
        unfold okS
        rcases hm with rfl | rfl | rfl <;> (try simp only) <;> omega
def sp_spans : SpD := fun ds μ Q _ => match ds with
  | [.at p, .int n] => μ p = some .pot ∧ 0 ≤ n ∧ n ≤ 100 ∧ ∀ S : List Sp2, (S.length : Int) = n → (∀ s ∈ S, okS (10 ^ 31) s) → Q (.lst (S.map spD)) μ
  | _ => False
theorem sc_spans : FnScope ["_law_pot_here", "_law_many", "_law_found", "_law_turn"] ["_law_pot_here", "_law_many"] (defScope s_spans) := ⟨rfl, rfl, rfl, by decide +kernel, rfl, by decide +kernel, by decide +kernel⟩
theorem g_spans (T : Txt K mg C_Levels C_NoHand C_NoSlot C_NoSuch C_NoThing C_NotHad C_NotIn C_StoreError) (d_spans : Def0 K mg "_law_spans" s_spans) (c_span : CalD P w K mg base 3 "_law_span" s_span ["_law_pot_here", "_law_taken"] sp_span) : CalD P w K mg base 4 "_law_spans" s_spans ["_law_pot_here", "_law_many"] sp_spans := by
  refine calD d_spans sc_spans (fun ds μ Q E h => by unfold sp_spans at h; split at h <;> first | rfl | exact h.elim) ?_
  intro f cdv A outer s H EX ds μ Q E hg hr tk hp h
  obtain ⟨hu, hu1, hu2⟩ := rooms hr
  refine ⟨_, (jss_cons (js_set 2 (je_lst true ja_nil) sc_spans.nd)
      (jss_cons (js_for hp (ji_range1 T.n_range (ja_cons (je_name 1) ja_nil)) (jg_name 3 sc_spans.nd) (jss_one (js_expr (je_ml PySem.F.slot_list_append PySem.F.type_list_append md_append (je_name 2) (ja_cons (jf (ks := []) (n := 2) (idx := []) c_span hr (by decide) hg tkN (fun _ _ _ _ _ _ us ws h1 h2 => match us, ws, h1, h2 with | [_, _], [], _, _ => rfl) (jc_p (ja_cons (je_name 0) (ja_cons (je_name 2) ja_nil)))) ja_nil)))))
      (jss_one (js_ret (je_name 2))))), ?_⟩
  clear hr hg tk hp hu hu1 hu2
  unfold sp_spans at h
  split at h
  case h_2 => exact h.elim
  rename_i p n
  obtain ⟨hp1, n0, n1, q⟩ := h
  walk_at "dl go"
  walk_at "dl rd"
  refine rd_newT fun l hl0 => ?_
  walk_at "dl rd"
  refine ⟨fun i ρ μ' => ∃ (S : List Sp2) (x : Option D), ρ = [some (.at p), some (.int n), some (.at l), x] ∧ μ' = put μ l (.lst (S.map spD)) ∧ S.length = i ∧ ∀ s ∈ S, okS (10 ^ 30 + 10 * i) s, wk.same ⟨[], _, rfl, rfl, rfl, fun s hs => (by cases hs)⟩, fun _ _ _ _ _ => trivial, ?_, ?_⟩
  · rintro i d ρ μ' hd ⟨S, x, rfl, rfl, hl, hS⟩
    have hi := (List.getElem?_eq_some_iff.mp hd).1
    rw [List.length_map, List.length_range] at hi
    walk_at "dl rd"
    refine ⟨S, 10 ^ 30 + 10 * i, by walk_at "dl mu", put_same, by omega, by omega, by omega, hS, fun s hs => ?_⟩
    walk_at "dl rd"
    refine wk.same ⟨S ++ [s], _, rfl, ?_, by simp [hl], fun z hz => ?_⟩
    · rw [put_put, List.map_append]
      rfl
    · rcases List.mem_append.mp hz with hz | hz
      · have h1 := hS z hz
        unfold okS at h1 ⊢
        omega
      · simp only [List.mem_cons, List.not_mem_nil, or_false] at hz
        subst hz
        unfold okS at hs ⊢
        omega
  · rintro ρ μ' ⟨S, x, rfl, rfl, hl, hS⟩
    rw [List.length_map, List.length_range] at hl hS
    walk_at "dl rd"
    refine .froze ((Less.refl μ).put hl0) put_same hl0 (q S (by omega) fun s hs => ?_)
    have h1 := hS s hs
    unfold okS at h1 ⊢
    omega
def sp_is_whole : SpD := fun ds μ Q _ => match ds with
  | [.int _] => Q (.bl true) μ
  | _ => False
theorem sc_is_whole : FnScope ["thing"] ["thing"] (defScope s_is_whole) := ⟨rfl, rfl, rfl, by decide +kernel, rfl, by decide +kernel, by decide +kernel⟩
theorem g_is_whole (T : Txt K mg C_Levels C_NoHand C_NoSlot C_NoSuch C_NoThing C_NotHad C_NotIn C_StoreError) (d_is_whole : Def0 K mg "is_whole" s_is_whole)  : CalD P w K mg base 1 "is_whole" s_is_whole ["thing"] sp_is_whole := by
  refine calD d_is_whole sc_is_whole (fun ds μ Q E h => by unfold sp_is_whole at h; split at h <;> first | rfl | exact h.elim) ?_
  intro f cdv A outer s H EX ds μ Q E hg hr tk hp h
  obtain ⟨hu, hu1, hu2⟩ := rooms hr
  refine ⟨_, (jss_one (js_ret (je_and (je_cb cd_isi T.n_isinstance (ja_cons (je_name 0) (ja_cons (je_ty T.n_int (by rfl)) ja_nil))) (je_one (je_not (je_cb cd_isi T.n_isinstance (ja_cons (je_name 0) (ja_cons (je_ty T.n_bool (by rfl)) ja_nil)))))))), ?_⟩
  clear hr hg tk hp hu hu1 hu2
  unfold sp_is_whole at h
  split at h
  case h_2 => exact h.elim
  rename_i i
  walk_at "dl go"
  walk_at "dl rd"
  refine rd_brT rfl ?_
  walk_at "dl rd"
  exact wkR.same h
def sp_is_count : SpD := fun ds μ Q _ => match ds with
  | [.int i] => Q (.bl (decide (0 ≤ i))) μ
  | _ => False
theorem sc_is_count : FnScope ["thing"] ["thing"] (defScope s_is_count) := ⟨rfl, rfl, rfl, by decide +kernel, rfl, by decide +kernel, by decide +kernel⟩
theorem g_is_count (T : Txt K mg C_Levels C_NoHand C_NoSlot C_NoSuch C_NoThing C_NotHad C_NotIn C_StoreError) (d_is_count : Def0 K mg "is_count" s_is_count) (c_is_whole : CalD P w K mg base 1 "is_whole" s_is_whole ["thing"] sp_is_whole) : CalD P w K mg base 2 "is_count" s_is_count ["thing"] sp_is_count := by
  refine calD d_is_count sc_is_count (fun ds μ Q E h => by unfold sp_is_count at h; split at h <;> first | rfl | exact h.elim) ?_
  intro f cdv A outer s H EX ds μ Q E hg hr tk hp h
  obtain ⟨hu, hu1, hu2⟩ := rooms hr
  refine ⟨_, (jss_one (js_ret (je_and (jf (ks := []) (n := 1) (idx := []) c_is_whole hr (by decide) hg tkN (fun _ _ _ _ _ _ us ws h1 h2 => match us, ws, h1, h2 with | [_], [], _, _ => rfl) (jc_p (ja_cons (je_name 0) ja_nil))) (je_one (je_cmp od_ge (je_name 0) je_int))))), ?_⟩
  clear hr hg tk hp hu hu1 hu2
  unfold sp_is_count at h
  split at h
  case h_2 => exact h.elim
  rename_i i
  walk_at "dl go"
  walk_at "dl rd"
  show Br true _ _
  refine rd_brT rfl ?_
  walk_at "dl rd"
  exact wkR.same h
def sp_want_count : SpD := fun ds μ Q _ => match ds with
  | [.int i] => 0 ≤ i ∧ Q .non μ
  | _ => False
theorem sc_want_count : FnScope ["level"] ["level"] (defScope s_want_count) := ⟨rfl, rfl, rfl, by decide +kernel, rfl, by decide +kernel, by decide +kernel⟩
theorem g_want_count (T : Txt K mg C_Levels C_NoHand C_NoSlot C_NoSuch C_NoThing C_NotHad C_NotIn C_StoreError) (d_want_count : Def0 K mg "want_count" s_want_count) (c_is_count : CalD P w K mg base 2 "is_count" s_is_count ["thing"] sp_is_count) : CalD P w K mg base 3 "want_count" s_want_count ["level"] sp_want_count := by
  refine calD d_want_count sc_want_count (fun ds μ Q E h => by unfold sp_want_count at h; split at h <;> first | rfl | exact h.elim) ?_
  intro f cdv A outer s H EX ds μ Q E hg hr tk hp h
  obtain ⟨hu, hu1, hu2⟩ := rooms hr
  refine ⟨_, (jss_one (js_if (jt_not (jt_val (jf (ks := []) (n := 1) (idx := []) c_is_count hr (by decide) hg tkN (fun _ _ _ _ _ _ us ws h1 h2 => match us, ws, h1, h2 with | [_], [], _, _ => rfl) (jc_p (ja_cons (je_name 0) ja_nil))))) (jss_one js_never) jss_nil)), ?_⟩
  clear hr hg tk hp hu hu1 hu2
  unfold sp_want_count at h
  split at h
  case h_2 => exact h.elim
  rename_i i
  obtain ⟨h0, q⟩ := h
  walk_at "dl go"
  walk_at "dl rd"
  show Br (!decide (0 ≤ i)) _ _
  refine rd_brF (by simp [h0]) ?_
  exact wkR.same q
def sp_Levels_add_rise (C_Levels : Addr) : SpD := fun ds μ Q _ => match ds with
  | [.at t, .int e, .int more] => ∃ a b oft rs, Lv C_Levels μ t a b oft rs ∧ rs.length ≤ 100000 ∧ more ≠ 0 ∧ Q .non (put μ b (.dK (enc kI (bump rs e more))))
  | _ => False
theorem sc_Levels_add_rise : FnScope ["self", "level", "more", "found"] ["self", "level", "more"] (defScope s_Levels_add_rise) := ⟨rfl, rfl, rfl, by decide +kernel, rfl, by decide +kernel, by decide +kernel⟩
theorem g_Levels_add_rise (T : Txt K mg C_Levels C_NoHand C_NoSlot C_NoSuch C_NoThing C_NotHad C_NotIn C_StoreError) (d_Levels_add_rise : Met0 K C_Levels "add_rise" "Levels.add_rise" s_Levels_add_rise)  : MetD P w K mg base 1 C_Levels "add_rise" "Levels.add_rise" s_Levels_add_rise ["self", "level", "more"] (sp_Levels_add_rise C_Levels) := by
  refine metD d_Levels_add_rise sc_Levels_add_rise (fun ds μ Q E h => by unfold sp_Levels_add_rise at h; split at h <;> first | rfl | exact h.elim) ?_
  intro f cdv A outer s H EX ds μ Q E hg hr tk hp h
  obtain ⟨hu, hu1, hu2⟩ := rooms hr
  refine ⟨_, (jss_cons (js_set 3 (je_op (od_add false) (je_dget2 hu1 (je_fld T.cl_Levels T.na_Levels_rises (je_name 0)) (je_name 1) je_int ⟨by rfl, by rfl, by rfl, by rfl⟩) (je_name 2)) sc_Levels_add_rise.nd)
      (jss_one (js_if (jt_cmp (od_eq hu) (je_name 3) je_int) (jss_one (js_ddel hu2 (je_fld T.cl_Levels T.na_Levels_rises (je_name 0)) (je_name 1))) (jss_one (js_dput hu1 (je_fld T.cl_Levels T.na_Levels_rises (je_name 0)) (je_name 1) (je_name 3)))))), ?_⟩
  clear hr hg tk hp hu hu1 hu2
  unfold sp_Levels_add_rise at h
  split at h
  case h_2 => exact h.elim
  rename_i t e more
  obtain ⟨a, b, oft, rs, ⟨h1, h2, h3⟩, hl, hm, q⟩ := h
  unfold bump at q
  walk_at "dl go"
  walk_at "dl rd"
  refine rd_brD (fun hf => ?_) fun hf => ?_
  · rw [if_pos hf] at q
    walk_at "dl rd"
    exact wkR.same q
  · rw [if_neg hf] at q
    walk_at "dl rd"
    exact wkR.same q
def sp_Levels_add_span (C_Levels : Addr) : SpD := fun ds μ Q _ => match ds with
  | [.at t, .int lo, .int hi, .int more] => ∃ a b oft rs, Lv C_Levels μ t a b oft rs ∧ oft.length ≤ 10000 ∧ rs.length ≤ 10000 ∧ more ≠ 0 ∧ Q .non (put (put μ a (.dT (enc kP (bump oft (lo, hi) more)))) b (.dK (enc kI (if lo < hi then bump (bump rs lo more) hi (-more) else rs))))
  | _ => False
theorem sc_Levels_add_span : FnScope ["self", "low", "high", "more", "span", "found"] ["self", "low", "high", "more"] (defScope s_Levels_add_span) := ⟨rfl, rfl, rfl, by decide +kernel, rfl, by decide +kernel, by decide +kernel⟩
theorem g_Levels_add_span (T : Txt K mg C_Levels C_NoHand C_NoSlot C_NoSuch C_NoThing C_NotHad C_NotIn C_StoreError) (d_Levels_add_span : Met0 K C_Levels "add_span" "Levels.add_span" s_Levels_add_span) (c_Levels_add_rise : MetD P w K mg base 1 C_Levels "add_rise" "Levels.add_rise" s_Levels_add_rise ["self", "level", "more"] (sp_Levels_add_rise C_Levels)) : MetD P w K mg base 2 C_Levels "add_span" "Levels.add_span" s_Levels_add_span ["self", "low", "high", "more"] (sp_Levels_add_span C_Levels) := by
  refine metD d_Levels_add_span sc_Levels_add_span (fun ds μ Q E h => by unfold sp_Levels_add_span at h; split at h <;> first | rfl | exact h.elim) ?_
  intro f cdv A outer s H EX ds μ Q E hg hr tk hp h
  obtain ⟨hu, hu1, hu2⟩ := rooms hr
  refine ⟨_, (jss_cons (js_set 4 (je_tup (ja_cons (je_name 1) (ja_cons (je_name 2) ja_nil))) sc_Levels_add_span.nd)
      (jss_cons (js_set 5 (je_op (od_add false) (je_dget2 hu1 (je_fld T.cl_Levels T.na_Levels_often (je_name 0)) (je_name 4) je_int ⟨by rfl, by rfl, by rfl, by rfl⟩) (je_name 3)) sc_Levels_add_span.nd)
      (jss_cons (js_if (jt_cmp (od_eq hu) (je_name 5) je_int) (jss_one (js_ddel hu2 (je_fld T.cl_Levels T.na_Levels_often (je_name 0)) (je_name 4))) (jss_one (js_dput hu1 (je_fld T.cl_Levels T.na_Levels_often (je_name 0)) (je_name 4) (je_name 5))))
      (jss_one (js_if (jt_cmp od_lt (je_name 1) (je_name 2)) (jss_cons (js_expr (jm (ks := []) (n := 3) (idx := []) (je_name 0) T.cl_Levels c_Levels_add_rise hr (by decide) hg tkN (fun _ _ _ _ _ _ us ws h1 h2 => match us, ws, h1, h2 with | [_, _, _], [], _, _ => rfl) (jc_p (ja_cons (je_name 1) (ja_cons (je_name 3) ja_nil)))))
      (jss_one (js_expr (jm (ks := []) (n := 3) (idx := []) (je_name 0) T.cl_Levels c_Levels_add_rise hr (by decide) hg tkN (fun _ _ _ _ _ _ us ws h1 h2 => match us, ws, h1, h2 with | [_, _, _], [], _, _ => rfl) (jc_p (ja_cons (je_name 2) (ja_cons (je_un ud_neg (je_name 3)) ja_nil))))))) jss_nil))))), ?_⟩
  clear hr hg tk hp hu hu1 hu2
  unfold sp_Levels_add_span at h
  split at h
  case h_2 => exact h.elim
  rename_i t lo hi more
  obtain ⟨a, b, oft, rs, ⟨h1, h2, h3⟩, hl, hl2, hm, q⟩ := h
  walk_at "dl go"
  walk_at "dl rd"
  refine rd_brD (fun hf => ?_) fun hf => ?_
  · have e : bump oft (lo, hi) more = dropI oft (lo, hi) := by unfold bump; rw [if_pos hf]
    rw [e] at q
    walk_at "dl rd"
    refine rd_brD (fun hlt => ?_) fun hlt => ?_
    · rw [if_pos hlt] at q
      walk_at "dl rd"
      refine ⟨a, b, _, rs, ⟨by walk_at "dl mu", by walk_at "dl mu", by walk_at "dl mu"⟩, by omega, hm, ?_⟩
      walk_at "dl rd"
      refine ⟨a, b, _, _, ⟨by walk_at "dl mu", by walk_at "dl mu", by walk_at "dl mu"⟩, ?_, by omega, ?_⟩
      · have := bump_le rs lo more
        omega
      · rw [put_put]
        exact wkR.same q
    · rw [if_neg hlt, put_self (by walk_at "dl mu")] at q
      exact wkR.same q
  · have e : bump oft (lo, hi) more = putI oft (lo, hi) (valI oft (lo, hi) + more) := by unfold bump; rw [if_neg hf]
    rw [e] at q
    walk_at "dl rd"
    refine rd_brD (fun hlt => ?_) fun hlt => ?_
    · rw [if_pos hlt] at q
      walk_at "dl rd"
      refine ⟨a, b, _, rs, ⟨by walk_at "dl mu", by walk_at "dl mu", by walk_at "dl mu"⟩, by omega, hm, ?_⟩
      walk_at "dl rd"
      refine ⟨a, b, _, _, ⟨by walk_at "dl mu", by walk_at "dl mu", by walk_at "dl mu"⟩, ?_, by omega, ?_⟩
      · have := bump_le rs lo more
        omega
      · rw [put_put]
        exact wkR.same q
    · rw [if_neg hlt, put_self (by walk_at "dl mu")] at q
      exact wkR.same q
def sp_Levels_put_span (C_Levels : Addr) : SpD := fun ds μ Q _ => match ds with
  | [.at t, .int lo, .int hi] => ∃ a b oft rs, Lv C_Levels μ t a b oft rs ∧ oft.length ≤ 10000 ∧ rs.length ≤ 10000 ∧ 0 ≤ lo ∧ 0 ≤ hi ∧ Q .non (put (put μ a (.dT (enc kP (bump oft (lo, hi) 1)))) b (.dK (enc kI (if lo < hi then bump (bump rs lo 1) hi (-1) else rs))))
  | _ => False
theorem sc_Levels_put_span : FnScope ["self", "low", "high"] ["self", "low", "high"] (defScope s_Levels_put_span) := ⟨rfl, rfl, rfl, by decide +kernel, rfl, by decide +kernel, by decide +kernel⟩
theorem g_Levels_put_span (T : Txt K mg C_Levels C_NoHand C_NoSlot C_NoSuch C_NoThing C_NotHad C_NotIn C_StoreError) (d_Levels_put_span : Met0 K C_Levels "put_span" "Levels.put_span" s_Levels_put_span) (c_want_count : CalD P w K mg base 3 "want_count" s_want_count ["level"] sp_want_count) (c_Levels_add_span : MetD P w K mg base 2 C_Levels "add_span" "Levels.add_span" s_Levels_add_span ["self", "low", "high", "more"] (sp_Levels_add_span C_Levels)) : MetD P w K mg base 4 C_Levels "put_span" "Levels.put_span" s_Levels_put_span ["self", "low", "high"] (sp_Levels_put_span C_Levels) := by
  refine metD d_Levels_put_span sc_Levels_put_span (fun ds μ Q E h => by unfold sp_Levels_put_span at h; split at h <;> first | rfl | exact h.elim) ?_
  intro f cdv A outer s H EX ds μ Q E hg hr tk hp h
  obtain ⟨hu, hu1, hu2⟩ := rooms hr
  refine ⟨_, (jss_cons (js_expr (jf (ks := []) (n := 1) (idx := []) c_want_count hr (by decide) hg tkN (fun _ _ _ _ _ _ us ws h1 h2 => match us, ws, h1, h2 with | [_], [], _, _ => rfl) (jc_p (ja_cons (je_name 1) ja_nil))))
      (jss_cons (js_expr (jf (ks := []) (n := 1) (idx := []) c_want_count hr (by decide) hg tkN (fun _ _ _ _ _ _ us ws h1 h2 => match us, ws, h1, h2 with | [_], [], _, _ => rfl) (jc_p (ja_cons (je_name 2) ja_nil))))
      (jss_one (js_expr (jm (ks := []) (n := 4) (idx := []) (je_name 0) T.cl_Levels c_Levels_add_span hr (by decide) hg tkN (fun _ _ _ _ _ _ us ws h1 h2 => match us, ws, h1, h2 with | [_, _, _, _], [], _, _ => rfl) (jc_p (ja_cons (je_name 1) (ja_cons (je_name 2) (ja_cons je_int ja_nil))))))))), ?_⟩
  clear hr hg tk hp hu hu1 hu2
  unfold sp_Levels_put_span at h
  split at h
  case h_2 => exact h.elim
  rename_i t lo hi
  obtain ⟨a, b, oft, rs, L, hl, hl2, h0, h1, q⟩ := h
  walk_at "dl go"
  walk_at "dl rd"
  refine ⟨h0, ?_⟩
  walk_at "dl rd"
  refine ⟨h1, ?_⟩
  have ho := L.ob
  walk_at "dl rd"
  refine ⟨a, b, oft, rs, L, hl, hl2, by decide, wkR.same q⟩
def sp_Levels_spans (C_Levels : Addr) : SpD := fun ds μ Q _ => match ds with
  | [.at t] => ∃ a b oft rs S, Lv C_Levels μ t a b oft rs ∧ Cnt oft S ∧ S.length ≤ 1000 ∧ ∀ l, μ l = none → Q (.at l) (put μ l (.lst ((sortP S).map spD)))
  | _ => False
theorem sc_Levels_spans : FnScope ["self", "found", "span"] ["self"] (defScope s_Levels_spans) := ⟨rfl, rfl, rfl, by decide +kernel, rfl, by decide +kernel, by decide +kernel⟩
theorem g_Levels_spans (T : Txt K mg C_Levels C_NoHand C_NoSlot C_NoSuch C_NoThing C_NotHad C_NotIn C_StoreError) (d_Levels_spans : Met0 K C_Levels "spans" "Levels.spans" s_Levels_spans)  : MetD P w K mg base 1 C_Levels "spans" "Levels.spans" s_Levels_spans ["self"] (sp_Levels_spans C_Levels) := by
  refine metD d_Levels_spans sc_Levels_spans (fun ds μ Q E h => by unfold sp_Levels_spans at h; split at h <;> first | rfl | exact h.elim) ?_
  intro f cdv A outer s H EX ds μ Q E hg hr tk hp h
  obtain ⟨hu, hu1, hu2⟩ := rooms hr
  refine ⟨_, (jss_cons (js_set 1 (je_lst true ja_nil) sc_Levels_spans.nd)
      (jss_cons (js_for hp (ji_list (je_cb (cd_sortedT false rfl hu) T.n_sorted (ja_cons (je_fld T.cl_Levels T.na_Levels_often (je_name 0)) ja_nil))) (jg_name 2 sc_Levels_spans.nd) (jss_one (js_expr (je_ml PySem.F.slot_list_extend PySem.F.type_list_extend md_extend (je_name 1) (ja_cons (je_op (od_mul false) (je_lst false (ja_cons (je_name 2) ja_nil)) (je_dget hu1 (je_fld T.cl_Levels T.na_Levels_often (je_name 0)) (je_name 2))) ja_nil)))))
      (jss_one (js_ret (je_name 1))))), ?_⟩
  clear hr hg tk hp hu hu1 hu2
  unfold sp_Levels_spans at h
  split at h
  case h_2 => exact h.elim
  rename_i t
  obtain ⟨a, b, oft, rs, S, ⟨h1, h2, h3⟩, hc, hl, q⟩ := h
  have hsz := hc.size
  have tot : (spansOf oft).length = S.length := by rw [hc.spans, sortP_len]
  walk_at "dl go"
  walk_at "dl rd"
  refine rd_newT fun l hl0 => ?_
  walk_at "dl rd"
  refine rd_sortedP (by walk_at "dl mu") (by omega) ?_
  walk_at "dl rd"
  refine ⟨fun i ρ μ' => (∃ x, ρ = [some (.at t), some (.at l), x]) ∧ μ' = put μ l (.lst ((((sortP (oft.map (·.1))).take i).flatMap fun s => List.replicate (valI oft s).toNat s).map spD)), wk.same ⟨⟨_, rfl⟩, rfl⟩, fun _ _ _ _ _ => rfl, ?_, ?_⟩
  · rintro i d ρ μ' hd ⟨⟨x, rfl⟩, rfl⟩
    obtain ⟨s, hm, e, rfl⟩ := map_get hd
    have hm : s ∈ oft.map (·.1) := (sortP_perm _).mem_iff.mp hm
    have hg := hc.get hm
    have hv := hc.val s
    have hcs : S.count s ≤ S.length := List.count_le_length
    have pre : (((sortP (oft.map (·.1))).take (i + 1)).flatMap fun s => List.replicate (valI oft s).toNat s).length ≤ S.length := by
      rw [← tot]
      unfold spansOf
      conv => rhs; rw [← List.take_append_drop (i + 1) (sortP (oft.map (·.1)))]
      rw [List.flatMap_append, List.length_append]
      omega
    rw [take_succ_get e, List.flatMap_append, List.length_append] at pre
    have one : ([s].flatMap fun s => List.replicate (valI oft s).toNat s) = List.replicate (valI oft s).toNat s := by simp
    have e3 : (valI oft s).toNat = S.count s := by rw [hv]; rfl
    rw [one, List.length_replicate, e3] at pre
    have g2 : getI oft (s.1, s.2) = some (S.count s : Int) := hg
    show wName 1 _ _ _
    walk_at "dl rd"
    unfold spD
    walk_at "dl rd"
    have e4 : (List.replicate (Int.toNat (S.count s : Int)) [D.tup [.int s.1, .int s.2]]).flatten = (List.replicate (S.count s) s).map spD := by
      simp [spD]
    refine rd_mull ⟨by omega, by omega, by simp; rw [sizeLine_eq]; omega⟩ ?_
    rw [e4]
    walk_at "dl rd"
    refine rd_extl (by walk_at "dl mu") ?_ ?_
    · rw [List.length_map, List.length_map, List.length_replicate]
      omega
    · refine wk.same ⟨⟨_, rfl⟩, ?_⟩
      rw [put_put, take_succ_get e, List.flatMap_append, one, List.map_append, e3]
      rfl
  · rintro ρ μ' ⟨⟨x, rfl⟩, rfl⟩
    walk_at "dl rd"
    refine wkR.same ?_
    rw [List.length_map, List.take_length]
    have := q l hl0
    rw [← hc.spans] at this
    exact this
def sp_Levels___len__ (C_Levels : Addr) : SpD := fun ds μ Q _ => match ds with
  | [.at t] => ∃ a b oft rs S, Lv C_Levels μ t a b oft rs ∧ Cnt oft S ∧ S.length ≤ 1000 ∧ Q (.int S.length) μ
  | _ => False
theorem sc_Levels___len__ : FnScope ["self"] ["self"] (defScope s_Levels___len__) := ⟨rfl, rfl, rfl, by decide +kernel, rfl, by decide +kernel, by decide +kernel⟩
theorem g_Levels___len__ (T : Txt K mg C_Levels C_NoHand C_NoSlot C_NoSuch C_NoThing C_NotHad C_NotIn C_StoreError) (d_Levels___len__ : Met0 K C_Levels "__len__" "Levels.__len__" s_Levels___len__) (c_Levels_spans : MetD P w K mg base 1 C_Levels "spans" "Levels.spans" s_Levels_spans ["self"] (sp_Levels_spans C_Levels)) : MetD P w K mg base 2 C_Levels "__len__" "Levels.__len__" s_Levels___len__ ["self"] (sp_Levels___len__ C_Levels) := by
  refine metD d_Levels___len__ sc_Levels___len__ (fun ds μ Q E h => by unfold sp_Levels___len__ at h; split at h <;> first | rfl | exact h.elim) ?_
  intro f cdv A outer s H EX ds μ Q E hg hr tk hp h
  obtain ⟨hu, hu1, hu2⟩ := rooms hr
  refine ⟨_, (jss_one (js_ret (je_cb cd_len T.n_len (ja_cons (jm (ks := []) (n := 1) (idx := []) (je_name 0) T.cl_Levels c_Levels_spans hr (by decide) hg tkN (fun _ _ _ _ _ _ us ws h1 h2 => match us, ws, h1, h2 with | [_], [], _, _ => rfl) jc_0) ja_nil)))), ?_⟩
  clear hr hg tk hp hu hu1 hu2
  unfold sp_Levels___len__ at h
  split at h
  case h_2 => exact h.elim
  rename_i t
  obtain ⟨a, b, oft, rs, S, L, hc, hl, q⟩ := h
  have ho := L.ob
  walk_at "dl go"
  walk_at "dl rd"
  refine ⟨a, b, oft, rs, S, L, hc, hl, fun l hl0 => ?_⟩
  walk_at "dl rd"
  rw [List.length_map, sortP_len]
  exact wkR.less (less1 hl0) q
def sp_Levels_crossing (C_Levels : Addr) : SpD := fun ds μ Q _ => match ds with
  | [.at t, .int lev] => ∃ a b oft rs, Lv C_Levels μ t a b oft rs ∧ rs.length ≤ 10000 ∧ 0 ≤ lev ∧ Q (.int (wsum (fun e => decide (e ≤ lev)) rs)) μ
  | _ => False
theorem sc_Levels_crossing : FnScope ["self", "level", "end", "rise"] ["self", "level"] (defScope s_Levels_crossing) := ⟨rfl, rfl, rfl, by decide +kernel, rfl, by decide +kernel, by decide +kernel⟩
theorem g_Levels_crossing (T : Txt K mg C_Levels C_NoHand C_NoSlot C_NoSuch C_NoThing C_NotHad C_NotIn C_StoreError) (d_Levels_crossing : Met0 K C_Levels "crossing" "Levels.crossing" s_Levels_crossing) (c_want_count : CalD P w K mg base 3 "want_count" s_want_count ["level"] sp_want_count) : MetD P w K mg base 4 C_Levels "crossing" "Levels.crossing" s_Levels_crossing ["self", "level"] (sp_Levels_crossing C_Levels) := by
  refine metD d_Levels_crossing sc_Levels_crossing (fun ds μ Q E h => by unfold sp_Levels_crossing at h; split at h <;> first | rfl | exact h.elim) ?_
  intro f cdv A outer s H EX ds μ Q E hg hr tk hp h
  obtain ⟨hu, hu1, hu2⟩ := rooms hr
  refine ⟨_, (jss_cons (js_expr (jf (ks := []) (n := 1) (idx := []) c_want_count hr (by decide) hg tkN (fun _ _ _ _ _ _ us ws h1 h2 => match us, ws, h1, h2 with | [_], [], _, _ => rfl) (jc_p (ja_cons (je_name 1) ja_nil))))
      (jss_one (js_ret (je_cb (cd_sum rfl) T.n_sum (ja_cons (je_lock (je_lc (own := [("end", 2), ("rise", 3)]) (g := gTup _ 2 (gCons (gName 2) (gCons (gName 3) gNil))) sc_Levels_crossing.nd (ji_items (je_fld T.cl_Levels T.na_Levels_rises (je_name 0))) (blkOk_by (own := [("end", 2), ("rise", 3)]) (sc := defScope s_Levels_crossing) (N := ["self", "level", "end", "rise"]) (by decide +kernel)) (ct_tup 2 (cts_cons (ct_name 2) (cts_cons (ct_name 3) cts_nil))) (fun _ _ _ _ _ => (pg_tup (n := 2) rfl (pgs_cons (pg_name (i := 2) sc_Levels_crossing.nd rfl (by first | exact Or.inl rfl | exact Or.inr rfl)) (pgs_cons (pg_name (i := 3) sc_Levels_crossing.nd rfl (by first | exact Or.inl rfl | exact Or.inr rfl)) pgs_nil)) rfl rfl)) (fun _ _ _ _ _ => (jts_one (jt_cmp od_le (je_name 2) (je_name 1)))) (fun _ _ _ _ _ => (je_name 3)))) ja_nil))))), ?_⟩
  clear hr hg tk hp hu hu1 hu2
  unfold sp_Levels_crossing at h
  split at h
  case h_2 => exact h.elim
  rename_i t lev
  obtain ⟨a, b, oft, rs, ⟨h1, h2, h3⟩, hl, h0, q⟩ := h
  walk_at "dl go"
  walk_at "dl rd"
  refine ⟨h0, ?_⟩
  walk_at "dl rd"
  refine ⟨b, enc kI rs, h3, fun o ks => ?_⟩
  walk_at "dl rd"
  refine ⟨b, o, ks, enc kI rs, rfl, by walk_at "dl mu", ?_⟩
  have e : (enc kI rs).map (fun q => D.tup [Dk q.1, q.2]) = rs.map spD := by
    unfold enc
    rw [List.map_map]
    rfl
  rw [e]
  refine lc_pure (xs := rs) (f := spD) (h := fun s : Sp2 => .int s.2) (p := fun s : Sp2 => decide (s.1 ≤ lev)) ?_ ?_ ?_ ?_
  · omega
  · exact fun L acc hL => by (repeat (have ⟨_, hL⟩ := no_put hL)); walk_at "dl mu"
  · intro s hs L acc K1 K2 hL k1 k2
    (repeat (have ⟨_, hL⟩ := no_put hL))
    unfold spD
    walk_at "dl rd"
    exact rd_brD (fun hh => by walk_at "dl rd"; exact k1 (by simp [hh])) fun hh => k2 (by simp [hh])
  · refine ⟨by walk_at "dl mu", ?_⟩
    rw [put_put, put_self h3]
    refine ⟨_, (rs.filter fun s : Sp2 => decide (s.1 ≤ lev)).map (fun s : Sp2 => s.2), rfl, ?_, ?_⟩
    · show _ = _
      rw [List.map_map]
      rfl
    · exact wkR.same q
def sp_crossing : SpD := fun ds μ Q _ => match ds with
  | [.lst es, .int m] => ∃ S : List Sp2, es = S.map spD ∧ S.length ≤ 1000 ∧ Q (.int (cr S m : Nat)) μ
  | _ => False
theorem sc_crossing : FnScope ["_law_spans_here", "_law_level", "_law_start", "_law_goal"] ["_law_spans_here", "_law_level"] (defScope s_crossing) := ⟨rfl, rfl, rfl, by decide +kernel, rfl, by decide +kernel, by decide +kernel⟩
theorem g_crossing (T : Txt K mg C_Levels C_NoHand C_NoSlot C_NoSuch C_NoThing C_NotHad C_NotIn C_StoreError) (d_crossing : Def0 K mg "_law_crossing" s_crossing)  : CalD P w K mg base 1 "_law_crossing" s_crossing ["_law_spans_here", "_law_level"] sp_crossing := by
  refine calD d_crossing sc_crossing (fun ds μ Q E h => by unfold sp_crossing at h; split at h <;> first | rfl | exact h.elim) ?_
  intro f cdv A outer s H EX ds μ Q E hg hr tk hp h
  obtain ⟨hu, hu1, hu2⟩ := rooms hr
  refine ⟨_, (jss_one (js_ret (je_cb cd_len T.n_len (ja_cons (je_lc (own := [("_law_start", 2), ("_law_goal", 3)]) (g := gTup _ 2 (gCons (gName 2) (gCons (gName 3) gNil))) sc_crossing.nd (ji_list (je_name 0)) (blkOk_by (own := [("_law_start", 2), ("_law_goal", 3)]) (sc := defScope s_crossing) (N := ["_law_spans_here", "_law_level", "_law_start", "_law_goal"]) (by decide +kernel)) (ct_tup 2 (cts_cons (ct_name 2) (cts_cons (ct_name 3) cts_nil))) (fun _ _ _ _ _ => (pg_tup (n := 2) rfl (pgs_cons (pg_name (i := 2) sc_crossing.nd rfl (by first | exact Or.inl rfl | exact Or.inr rfl)) (pgs_cons (pg_name (i := 3) sc_crossing.nd rfl (by first | exact Or.inl rfl | exact Or.inr rfl)) pgs_nil)) rfl rfl)) (fun _ _ _ _ _ => (jts_one (jt_w (jw_and (jt_cmp od_le (je_name 2) (je_name 1)) (jw_and1 (jt_cmp od_lt (je_name 1) (je_name 3))))))) (fun _ _ _ _ _ => (je_name 2))) ja_nil)))), ?_⟩
  clear hr hg tk hp hu hu1 hu2
  unfold sp_crossing at h
  split at h
  case h_2 => exact h.elim
  rename_i es m
  obtain ⟨S, rfl, hl, q⟩ := h
  walk_at "dl go"
  walk_at "dl rd"
  refine lc_pure (xs := S) (f := spD) (h := fun s : Sp2 => .int s.1) (p := crossP m) (by omega) ?_ ?_ ?_
  · exact fun _ _ _ => rfl
  · intro s hs L acc K1 K2 hL k1 k2
    unfold spD
    walk_at "dl rd"
    refine rd_brD (fun hh => ?_) fun hh => ?_
    · walk_at "dl rd"
      exact rd_brD (fun hg => by walk_at "dl rd"; exact k1 (by simp [crossP, hh, hg])) fun hg => k2 (by simp [crossP, hh, hg])
    · exact rd_brF rfl (k2 (by simp [crossP, hh]))
  walk_at "dl rd"
  rw [List.length_map]
  exact wkR.same q
def sp_Levels_least_bare (C_Levels : Addr) : SpD := fun ds μ Q _ => match ds with
  | [.at t] => ∃ a b oft rs S, Lv C_Levels μ t a b oft rs ∧ RiseS rs S ∧ rs.length < 64 ∧ (∀ s ∈ S, 0 ≤ s.1 ∧ 0 ≤ s.2) ∧ ∀ m, Bare S m → Q (.int m) μ
  | _ => False
theorem sc_Levels_least_bare : FnScope ["self", "many", "bare", "level"] ["self"] (defScope s_Levels_least_bare) := ⟨rfl, rfl, rfl, by decide +kernel, rfl, by decide +kernel, by decide +kernel⟩
theorem g_Levels_least_bare (T : Txt K mg C_Levels C_NoHand C_NoSlot C_NoSuch C_NoThing C_NotHad C_NotIn C_StoreError) (d_Levels_least_bare : Met0 K C_Levels "least_bare" "Levels.least_bare" s_Levels_least_bare)  : MetD P w K mg base 1 C_Levels "least_bare" "Levels.least_bare" s_Levels_least_bare ["self"] (sp_Levels_least_bare C_Levels) := by
  refine metD d_Levels_least_bare sc_Levels_least_bare (fun ds μ Q E h => by unfold sp_Levels_least_bare at h; split at h <;> first | rfl | exact h.elim) ?_
  intro f cdv A outer s H EX ds μ Q E hg hr tk hp h
  obtain ⟨hu, hu1, hu2⟩ := rooms hr
  refine ⟨_, (jss_cons (js_asg (je_tup (ja_cons je_int (ja_cons je_int ja_nil))) (jg_tup 2 rfl (jgs_cons (jg_name 1 sc_Levels_least_bare.nd) (jgs_cons (jg_name 2 sc_Levels_least_bare.nd) jgs_nil))))
      (jss_cons (js_for hp (ji_list (je_cb (cd_sortedI false rfl) T.n_sorted (ja_cons (je_fld T.cl_Levels T.na_Levels_rises (je_name 0)) ja_nil))) (jg_name 3 sc_Levels_least_bare.nd) (jss_cons (js_if (jt_w (jw_and (jt_cmp (od_eq hu) (je_name 1) je_int) (jw_and1 (jt_cmp od_lt (je_name 2) (je_name 3))))) (jss_one (js_ret (je_name 2))) jss_nil)
      (jss_cons (js_aug 1 ip_add (je_dget hu1 (je_fld T.cl_Levels T.na_Levels_rises (je_name 0)) (je_name 3)) sc_Levels_least_bare.nd)
      (jss_one (js_set 2 (je_name 3) sc_Levels_least_bare.nd)))))
      (jss_one (js_ret (je_name 2))))), ?_⟩
  clear hr hg tk hp hu hu1 hu2
  unfold sp_Levels_least_bare at h
  split at h
  case h_2 => exact h.elim
  rename_i t
  obtain ⟨a, b, oft, rs, S, ⟨h1, h2, h3⟩, hR, hl, hS, q⟩ := h
  have hkey : ∀ e ∈ rs.map (·.1), 0 ≤ e := fun e he => by
    obtain ⟨p, hp, rfl⟩ := List.mem_map.mp he
    obtain ⟨s, hs, e⟩ := hR.key hp
    have := hS s hs
    omega
  walk_at "dl go"
  walk_at "dl rd"
  refine rd_sortedI (by walk_at "dl mu") hl fun ys hp hw => ?_
  walk_at "dl rd"
  refine ⟨fun i ρ μ' => μ' = μ ∧ ∃ many bare x, Seen rs S ys i many bare ∧ ρ = [some (.at t), some (.int many), some (.int bare), x], wk.same ⟨rfl, _, _, _, Seen.start hR hp hw hkey, rfl⟩, fun _ _ _ _ _ => rfl, ?_, ?_⟩
  · rintro i d ρ μ' hd ⟨hμ, many, bare, x, hs, rfl⟩
    subst μ'
    obtain ⟨e, hm, he, rfl⟩ := map_get hd
    have hm2 := hp.mem_iff.mp hm
    obtain ⟨p, hp1, rfl⟩ := List.mem_map.mp hm2
    have hg := getI_mem hR.nd hp1
    walk_at "dl rd"
    refine rd_brD (fun hz => ?_) fun hz => ?_
    · walk_at "dl rd"
      refine rd_brD (fun hlt => ?_) fun hlt => ?_
      · walk_at "dl rd"
        exact wkR.same (q _ (hs.found hR hp hw hkey he hz hlt))
      · walk_at "dl rd"
        exact wk.same ⟨rfl, _, _, _, hs.next hR hp hw hkey he hg (fun z => hlt z.2), rfl⟩
    · refine rd_brF rfl ?_
      walk_at "dl rd"
      exact wk.same ⟨rfl, _, _, _, hs.next hR hp hw hkey he hg (fun z => hz z.1), rfl⟩
  · rintro ρ μ' ⟨hμ, many, bare, x, hs, rfl⟩
    subst μ'
    rw [List.length_map] at hs
    walk_at "dl rd"
    exact wkR.same (q _ (hs.last hR hp hw hkey))
def sp_Levels_bare_below (C_Levels : Addr) : SpD := fun ds μ Q _ => match ds with
  | [.at t, .int e] => ∃ a b oft rs S m, Lv C_Levels μ t a b oft rs ∧ RiseS rs S ∧ rs.length < 64 ∧ (∀ s ∈ S, 0 ≤ s.1 ∧ 0 ≤ s.2) ∧ 0 ≤ e ∧ Bare S m ∧ Q (if m < e then .int m else .non) μ
  | _ => False
theorem sc_Levels_bare_below : FnScope ["self", "end", "found"] ["self", "end"] (defScope s_Levels_bare_below) := ⟨rfl, rfl, rfl, by decide +kernel, rfl, by decide +kernel, by decide +kernel⟩
theorem g_Levels_bare_below (T : Txt K mg C_Levels C_NoHand C_NoSlot C_NoSuch C_NoThing C_NotHad C_NotIn C_StoreError) (d_Levels_bare_below : Met0 K C_Levels "bare_below" "Levels.bare_below" s_Levels_bare_below) (c_want_count : CalD P w K mg base 3 "want_count" s_want_count ["level"] sp_want_count) (c_Levels_least_bare : MetD P w K mg base 1 C_Levels "least_bare" "Levels.least_bare" s_Levels_least_bare ["self"] (sp_Levels_least_bare C_Levels)) : MetD P w K mg base 4 C_Levels "bare_below" "Levels.bare_below" s_Levels_bare_below ["self", "end"] (sp_Levels_bare_below C_Levels) := by
  refine metD d_Levels_bare_below sc_Levels_bare_below (fun ds μ Q E h => by unfold sp_Levels_bare_below at h; split at h <;> first | rfl | exact h.elim) ?_
  intro f cdv A outer s H EX ds μ Q E hg hr tk hp h
  obtain ⟨hu, hu1, hu2⟩ := rooms hr
  refine ⟨_, (jss_cons (js_expr (jf (ks := []) (n := 1) (idx := []) c_want_count hr (by decide) hg tkN (fun _ _ _ _ _ _ us ws h1 h2 => match us, ws, h1, h2 with | [_], [], _, _ => rfl) (jc_p (ja_cons (je_name 1) ja_nil))))
      (jss_cons (js_set 2 (jm (ks := []) (n := 1) (idx := []) (je_name 0) T.cl_Levels c_Levels_least_bare hr (by decide) hg tkN (fun _ _ _ _ _ _ us ws h1 h2 => match us, ws, h1, h2 with | [_], [], _, _ => rfl) jc_0) sc_Levels_bare_below.nd)
      (jss_one (js_ret (je_if (jt_cmp od_lt (je_name 2) (je_name 1)) (je_name 2) je_non))))), ?_⟩
  clear hr hg tk hp hu hu1 hu2
  unfold sp_Levels_bare_below at h
  split at h
  case h_2 => exact h.elim
  rename_i t e
  obtain ⟨a, b, oft, rs, S, m, L, hR, hl, hS, h0, hB, q⟩ := h
  have ho := L.ob
  walk_at "dl go"
  walk_at "dl rd"
  refine ⟨h0, ?_⟩
  walk_at "dl rd"
  refine ⟨a, b, oft, rs, S, L, hR, hl, hS, fun m2 hm2 => ?_⟩
  obtain rfl := hB.uniq hm2
  walk_at "dl rd"
  refine rd_brD (fun hlt => ?_) fun hlt => ?_
  · rw [if_pos hlt] at q
    walk_at "dl rd"
    exact wkR.same q
  · rw [if_neg hlt] at q
    exact wkR.same q
def sp_bare : SpD := fun ds μ Q _ => match ds with
  | [.lst es, .int e] => ∃ (S : List Sp2) (m : Int), es = S.map spD ∧ S.length ≤ 1000 ∧ (∀ s ∈ S, 0 ≤ s.1 ∧ 0 ≤ s.2) ∧ Bare S m ∧ Q (if m < e then .int m else .non) μ
  | _ => False
theorem sc_bare : FnScope ["_law_spans_here", "_law_end", "_law_level", "_law_highs", "_law_start", "_law_goal"] ["_law_spans_here", "_law_end"] (defScope s_bare) := ⟨rfl, rfl, rfl, by decide +kernel, rfl, by decide +kernel, by decide +kernel⟩
theorem g_bare (T : Txt K mg C_Levels C_NoHand C_NoSlot C_NoSuch C_NoThing C_NotHad C_NotIn C_StoreError) (d_bare : Def0 K mg "_law_bare" s_bare)  : CalD P w K mg base 1 "_law_bare" s_bare ["_law_spans_here", "_law_end"] sp_bare := by
  refine calD d_bare sc_bare (fun ds μ Q E h => by unfold sp_bare at h; split at h <;> first | rfl | exact h.elim) ?_
  intro f cdv A outer s H EX ds μ Q E hg hr tk hp h
  obtain ⟨hu, hu1, hu2⟩ := rooms hr
  refine ⟨_, (jss_cons (js_set 2 je_int sc_bare.nd)
      (jss_cons (js_while hp (jt_cmp od_lt (je_name 2) (je_name 1)) (jss_cons (js_setLc 3 (own := [("_law_start", 4), ("_law_goal", 5)]) (g := gTup _ 2 (gCons (gName 4) (gCons (gName 5) gNil))) sc_bare.nd (ji_list (je_name 0)) (blkOk_by (own := [("_law_start", 4), ("_law_goal", 5)]) (sc := defScope s_bare) (N := ["_law_spans_here", "_law_end", "_law_level", "_law_highs", "_law_start", "_law_goal"]) (by decide +kernel)) (ct_tup 2 (cts_cons (ct_name 4) (cts_cons (ct_name 5) cts_nil))) (fun _ _ _ _ _ => (pg_tup (n := 2) rfl (pgs_cons (pg_name (i := 4) sc_bare.nd rfl (by first | exact Or.inl rfl | exact Or.inr rfl)) (pgs_cons (pg_name (i := 5) sc_bare.nd rfl (by first | exact Or.inl rfl | exact Or.inr rfl)) pgs_nil)) rfl rfl)) (fun _ _ _ _ _ => (jts_one (jt_w (jw_and (jt_cmp od_le (je_name 4) (je_name 2)) (jw_and1 (jt_cmp od_lt (je_name 2) (je_name 5))))))) (fun _ _ _ _ _ => (je_name 5)) (sw_true rfl rfl rfl (by decide +kernel)))
      (jss_cons (js_if (jt_cmp (od_eq hu) (je_name 3) (je_lst false ja_nil)) (jss_one (js_ret (je_name 2))) jss_nil)
      (jss_one (js_set 2 (je_cb (cd_maxL rfl) T.n_max (ja_cons (je_name 3) ja_nil)) sc_bare.nd)))))
      (jss_one (js_ret je_non)))), ?_⟩
  clear hr hg tk hp hu hu1 hu2
  unfold sp_bare at h
  split at h
  case h_2 => exact h.elim
  rename_i es e
  obtain ⟨S, m, rfl, hl, hS, hB, q⟩ := h
  walk_at "dl go"
  walk_at "dl rd"
  refine ⟨fun n ρ μ' => ∃ (l : Int) (x : Option D), ρ = [some (.lst (S.map spD)), some (.int e), some (.int l), x, none, none] ∧ μ' = μ ∧ WkB S l ∧ (n : Int) = m - l, ⟨(m - 0).toNat, wk.same ⟨0, _, rfl, rfl, .zero, by have := hB.nn; omega⟩⟩, ?_⟩
  rintro n ρ μ' ⟨l, x, rfl, rfl, w, hn⟩
  have hle := w.le hB
  walk_at "dl rd"
  refine rd_brD (fun hlt => ?_) fun hlt => ?_
  · walk_at "dl rd"
    refine lc_pure (xs := S) (f := spD) (h := fun s : Sp2 => .int s.2) (p := crossP l) (by omega) ?_ ?_ ?_
    · exact fun _ _ _ => rfl
    · intro s hs L acc K1 K2 hL k1 k2
      unfold spD
      walk_at "dl rd"
      refine rd_brD (fun hh => ?_) fun hh => ?_
      · walk_at "dl rd"
        exact rd_brD (fun hg => by walk_at "dl rd"; exact k1 (by simp [crossP, hh, hg])) fun hg => k2 (by simp [crossP, hh, hg])
      · exact rd_brF rfl (k2 (by simp [crossP, hh]))
    walk_at "dl rd"
    have em : (S.filter (crossP l)).map (fun s : Sp2 => D.int s.2) = ((S.filter (crossP l)).map fun x : Sp2 => x.2).map .int := by
      rw [List.map_map]
      rfl
    rw [em]
    refine rd_neL (ds := ((S.filter (crossP l)).map fun x : Sp2 => x.2).map .int) rfl (rss_ints _) ?_
    rw [List.isEmpty_map, List.isEmpty_map]
    walk_at "dl rd"
    cases eF : S.filter (crossP l) with
    | nil =>
      have h2 := (w.bare eF).uniq hB
      rw [← h2, if_pos hlt] at q
      refine rd_brT rfl ?_
      walk_at "dl rd"
      exact wkR.same q
    | cons s F =>
      refine rd_brF rfl ?_
      walk_at "dl rd"
      refine ⟨_, (s :: F).map (fun x : Sp2 => x.2), rfl, rfl, by simp, fun g hg hmx => ?_⟩
      rw [← eF] at hg
      obtain ⟨w2, hlg⟩ := w.next hg
      have := w2.le hB
      exact ⟨(m - g).toNat, by omega, wk.same ⟨g, _, rfl, rfl, w2, by omega⟩⟩
  · walk_at "dl rd"
    rw [if_neg (by omega)] at q
    exact wkR.same q
theorem sc_NotIn___init__ : FnScope ["self", "low", "high"] ["self", "low", "high"] (defScope s_NotIn___init__) := ⟨rfl, rfl, rfl, by decide +kernel, rfl, by decide +kernel, by decide +kernel⟩
theorem g_NotIn___init__ (T : Txt K mg C_Levels C_NoHand C_NoSlot C_NoSuch C_NoThing C_NotHad C_NotIn C_StoreError) (d_NotIn___init__ : ∃ (f : Addr) (fd : FuncData), Fun K "__init__" "NotIn.__init__" s_NotIn___init__ f fd ∧ PySem.W.findIn K (.ref C_NotIn) "__init__" = some (some (.ref f)) ∧ PySem.W.typeIn K (.ref f) = some (.type "function")) : MkL P w K mg base 2 "NotIn" C_NotIn ["low", "high"] := by
  obtain ⟨f, fd, F, iC, tI⟩ := d_NotIn___init__
  have b := F.binds (ps := ["self", "low", "high"]) fun _ _ _ _ _ _ us hl => match us, hl with | [_, _, _], _ => rfl
  exact ⟨f, fd, _, init_two F sc_NotIn___init__ T.ex_NotIn T.na_NotIn_low T.na_NotIn_high (fun cdv A outer s H E => pss_cons (ps_expr (pe_leinit rfl T.n_LookupError T.le (pa_cons (pv 0) (pa_cons pe_str pa_nil)))) (pss_cons (ps_osl PySem.F.store_LookupError (pv 0) (pv 1)) (pss_one (ps_osl PySem.F.store_LookupError (pv 0) (pv 2))))), iC, tI, b, T.g_NotIn, T.ex_NotIn⟩
def sp_Levels_take_span (C_Levels : Addr) (C_NotIn : Addr) : SpD := fun ds μ Q E => match ds with
  | [.at t, .int lo, .int hi] => ∃ a b oft rs, Lv C_Levels μ t a b oft rs ∧ oft.length ≤ 10000 ∧ rs.length ≤ 10000 ∧ 0 ≤ lo ∧ 0 ≤ hi ∧ (getI oft (lo, hi) = none → E (.ref C_NotIn) [("high", .int hi), ("low", .int lo)] μ) ∧ ((getI oft (lo, hi)).isSome = true → Q .non (put (put μ a (.dT (enc kP (bump oft (lo, hi) (-1))))) b (.dK (enc kI (riseOff rs (lo, hi))))))
  | _ => False
theorem sc_Levels_take_span : FnScope ["self", "low", "high"] ["self", "low", "high"] (defScope s_Levels_take_span) := ⟨rfl, rfl, rfl, by decide +kernel, rfl, by decide +kernel, by decide +kernel⟩
theorem g_Levels_take_span (T : Txt K mg C_Levels C_NoHand C_NoSlot C_NoSuch C_NoThing C_NotHad C_NotIn C_StoreError) (d_Levels_take_span : Met0 K C_Levels "take_span" "Levels.take_span" s_Levels_take_span) (c_want_count : CalD P w K mg base 3 "want_count" s_want_count ["level"] sp_want_count) (c_NotIn___init__ : MkL P w K mg base 2 "NotIn" C_NotIn ["low", "high"]) (c_Levels_add_span : MetD P w K mg base 2 C_Levels "add_span" "Levels.add_span" s_Levels_add_span ["self", "low", "high", "more"] (sp_Levels_add_span C_Levels)) : MetD P w K mg base 4 C_Levels "take_span" "Levels.take_span" s_Levels_take_span ["self", "low", "high"] (sp_Levels_take_span C_Levels C_NotIn) := by
  refine metD d_Levels_take_span sc_Levels_take_span (fun ds μ Q E h => by unfold sp_Levels_take_span at h; split at h <;> first | rfl | exact h.elim) ?_
  intro f cdv A outer s H EX ds μ Q E hg hr tk hp h
  obtain ⟨hu, hu1, hu2⟩ := rooms hr
  refine ⟨_, (jss_cons (js_expr (jf (ks := []) (n := 1) (idx := []) c_want_count hr (by decide) hg tkN (fun _ _ _ _ _ _ us ws h1 h2 => match us, ws, h1, h2 with | [_], [], _, _ => rfl) (jc_p (ja_cons (je_name 1) ja_nil))))
      (jss_cons (js_expr (jf (ks := []) (n := 1) (idx := []) c_want_count hr (by decide) hg tkN (fun _ _ _ _ _ _ us ws h1 h2 => match us, ws, h1, h2 with | [_], [], _, _ => rfl) (jc_p (ja_cons (je_name 2) ja_nil))))
      (jss_cons (js_if (jt_dnotin hu1 (je_tup (ja_cons (je_name 1) (ja_cons (je_name 2) ja_nil))) (je_fld T.cl_Levels T.na_Levels_often (je_name 0))) (jss_one (js_raise c_NotIn___init__ hr (by decide) rfl tk (ja_cons (je_name 1) (ja_cons (je_name 2) ja_nil)))) jss_nil)
      (jss_one (js_expr (jm (ks := []) (n := 4) (idx := []) (je_name 0) T.cl_Levels c_Levels_add_span hr (by decide) hg tkN (fun _ _ _ _ _ _ us ws h1 h2 => match us, ws, h1, h2 with | [_, _, _, _], [], _, _ => rfl) (jc_p (ja_cons (je_name 1) (ja_cons (je_name 2) (ja_cons (je_un ud_neg je_int) ja_nil)))))))))), ?_⟩
  clear hr hg tk hp hu hu1 hu2
  unfold sp_Levels_take_span at h
  split at h
  case h_2 => exact h.elim
  rename_i t lo hi
  obtain ⟨a, b, oft, rs, L, hl, hl2, h0, h1, q1, q2⟩ := h
  have ho := L.ob
  have hf := L.of
  walk_at "dl go"
  walk_at "dl rd"
  refine ⟨h0, ?_⟩
  walk_at "dl rd"
  refine ⟨h1, ?_⟩
  walk_at "dl rd"
  cases e : getI oft (lo, hi) with
  | none =>
    refine rd_brT rfl ?_
    walk_at "dl rd"
    exact q1 e
  | some v =>
    refine rd_brF rfl ?_
    walk_at "dl rd"
    refine ⟨a, b, oft, rs, L, hl, hl2, by decide, wkR.same (q2 (by rw [e]; rfl))⟩
def sp_not_in (C_Levels : Addr) (C_NotIn : Addr) : SpD := fun ds μ Q _ => match ds with
  | [.at t, .int lo, .int hi] => ∃ a b oft rs, Lv C_Levels μ t a b oft rs ∧ oft.length ≤ 10000 ∧ rs.length ≤ 10000 ∧ 0 ≤ lo ∧ 0 ≤ hi ∧ getI oft (lo, hi) = none ∧ Q (.bl true) μ
  | _ => False
theorem sc_not_in : FnScope ["_law_table", "_law_start", "_law_goal", "_law_told", "e", "_law_others"] ["_law_table", "_law_start", "_law_goal"] (defScope s_not_in) := ⟨rfl, rfl, rfl, by decide +kernel, rfl, by decide +kernel, by decide +kernel⟩
theorem g_not_in (T : Txt K mg C_Levels C_NoHand C_NoSlot C_NoSuch C_NoThing C_NotHad C_NotIn C_StoreError) (d_not_in : Def0 K mg "_law_not_in" s_not_in) (c_Levels_take_span : MetD P w K mg base 4 C_Levels "take_span" "Levels.take_span" s_Levels_take_span ["self", "low", "high"] (sp_Levels_take_span C_Levels C_NotIn)) : CalD P w K mg base 5 "_law_not_in" s_not_in ["_law_table", "_law_start", "_law_goal"] (sp_not_in C_Levels C_NotIn) := by
  refine calD d_not_in sc_not_in (fun ds μ Q E h => by unfold sp_not_in at h; split at h <;> first | rfl | exact h.elim) ?_
  intro f cdv A outer s H EX ds μ Q E hg hr tk hp h
  obtain ⟨hu, hu1, hu2⟩ := rooms hr
  refine ⟨_, (jss_cons (js_set 3 je_non sc_not_in.nd)
      (jss_cons (js_try_as (i := 4) (W := noW) rfl rfl sc_not_in.nd rfl rfl ⟨rfl, by decide, Or.inl T.g_NotIn⟩ tkN (fun _ WD pn xe tkW po => (jss_one (js_expr (jm (ks := []) (n := 3) (idx := []) (je_name 0) T.cl_Levels c_Levels_take_span hr (by decide) hg tkW (fun _ _ _ _ _ _ us ws h1 h2 => match us, ws, h1, h2 with | [_, _, _], [], _, _ => rfl) (jc_p (ja_cons (je_name 1) (ja_cons (je_name 2) ja_nil))))))) (fun _ a oe cls d fs pn hz hf fl nm => (jss_cons (js_set 5 (je_isX T.ic_NotIn T.n_isinstance hz hf fl nm (ja_cons (je_name 4) (ja_cons (je_tup (ja_cons (je_gref T.g_NoHand) (ja_cons (je_gref T.g_NoSlot) (ja_cons (je_gref T.g_NoSuch) (ja_cons (je_gref T.g_NoThing) (ja_cons (je_gref T.g_NotHad) (ja_cons (je_gref T.g_StoreError) ja_nil))))))) ja_nil))) sc_not_in.nd)
      (jss_one (js_set 3 (je_tup (ja_cons (je_xf T.xf_NotIn T.na_NotIn_low hz hf fl nm (je_name 4)) (ja_cons (je_xf T.xf_NotIn T.na_NotIn_high hz hf fl nm (je_name 4)) (ja_cons (je_and (je_isX T.ic_NotIn T.n_isinstance hz hf fl nm (ja_cons (je_name 4) (ja_cons (je_ty T.n_LookupError (by rfl)) ja_nil))) (je_one (je_not (je_name 5)))) ja_nil)))) sc_not_in.nd)))))
      (jss_one (js_ret (je_cmp (od_eq hu) (je_name 3) (je_tup (ja_cons (je_name 1) (ja_cons (je_name 2) (ja_cons je_bl ja_nil))))))))), ?_⟩
  clear hr hg tk hp hu hu1 hu2
  unfold sp_not_in at h
  split at h
  case h_2 => exact h.elim
  rename_i t lo hi
  obtain ⟨a, b, oft, rs, L, hl, hl2, h0, h1, hn, q⟩ := h
  have ho := L.ob
  walk_at "dl go"
  walk_at "dl rd"
  refine ⟨a, b, oft, rs, L, hl, hl2, h0, h1, fun _ => ⟨true, T.xm_NotIn, fun _ ea => ?_, fun z => (by cases z)⟩, fun z => (by rw [hn] at z; cases z)⟩
  walk_at "dl rd"
  refine ⟨rfl, _, false, rfl, .inr ⟨_, [.ref C_NoHand, .ref C_NoSlot, .ref C_NoSuch, .ref C_NoThing, .ref C_NotHad, .ref C_StoreError], rfl, rfl, kit_any fun v hv => ?_⟩, ?_⟩
  · simp only [List.mem_cons, List.not_mem_nil, or_false] at hv
    rcases hv with rfl | rfl | rfl | rfl | rfl | rfl
    · exact T.ik_NotIn_NoHand
    · exact T.ik_NotIn_NoSlot
    · exact T.ik_NotIn_NoSuch
    · exact T.ik_NotIn_NoThing
    · exact T.ik_NotIn_NotHad
    · exact T.ik_NotIn_StoreError
  walk_at "dl rd"
  refine ⟨rfl, rfl, _, by rfl, ?_⟩
  walk_at "dl rd"
  refine ⟨rfl, rfl, _, by rfl, ?_⟩
  walk_at "dl rd"
  refine ⟨rfl, _, true, rfl, .inl ⟨_, rfl, T.ib_NotIn_LookupError⟩, ?_⟩
  walk_at "dl kb"
  show EqQ μ (.tup [.int lo, .int hi, .bl true]) (.tup [.int lo, .int hi, .bl true]) _
  exact rd_eqSame (.tup (.cons (.int _) (.cons (.int _) (.cons (.bl _) .nil)))) (by simp [PyData.depth, PyData.depthAll]) (wkR.same q)
def sp_right (C_Levels : Addr) : SpD := fun ds μ Q _ => match ds with
  | [.at p, .at t, .at r] => ∃ (S : List Sp2) (a b : Addr) (oft : Tb Sp2) (rs : Tb Int), μ p = some .pot ∧ Lv C_Levels μ t a b oft rs ∧ μ r = some (.lst (S.map spD)) ∧ S.length ≤ 30 ∧ (∀ s ∈ S, okS (10 ^ 31) s) ∧ Cnt oft S ∧ RiseS rs S ∧ rs.length < 64 ∧ Q (.bl true) μ
  | _ => False
theorem sc_right : FnScope ["_law_pot_here", "_law_table", "_law_spans_here", "_law_due", "_law_told", "_law_levels", "_law_turn", "_law_start", "_law_goal", "_law_level"] ["_law_pot_here", "_law_table", "_law_spans_here"] (defScope s_right) := ⟨rfl, rfl, rfl, by decide +kernel, rfl, by decide +kernel, by decide +kernel⟩
theorem g_right (T : Txt K mg C_Levels C_NoHand C_NoSlot C_NoSuch C_NoThing C_NotHad C_NotIn C_StoreError) (d_right : Def0 K mg "_law_right" s_right) (c_Levels_spans : MetD P w K mg base 1 C_Levels "spans" "Levels.spans" s_Levels_spans ["self"] (sp_Levels_spans C_Levels)) (c_Levels___len__ : MetD P w K mg base 2 C_Levels "__len__" "Levels.__len__" s_Levels___len__ ["self"] (sp_Levels___len__ C_Levels)) (c_draw : CalD P w K mg base 1 "_law_draw" s_draw ["_law_pot_here", "_law_many"] sp_draw) (c_among : CalD P w K mg base 2 "_law_among" s_among ["_law_pot_here", "_law_some"] sp_among) (c_Levels_crossing : MetD P w K mg base 4 C_Levels "crossing" "Levels.crossing" s_Levels_crossing ["self", "level"] (sp_Levels_crossing C_Levels)) (c_crossing : CalD P w K mg base 1 "_law_crossing" s_crossing ["_law_spans_here", "_law_level"] sp_crossing) (c_Levels_bare_below : MetD P w K mg base 4 C_Levels "bare_below" "Levels.bare_below" s_Levels_bare_below ["self", "end"] (sp_Levels_bare_below C_Levels)) (c_bare : CalD P w K mg base 1 "_law_bare" s_bare ["_law_spans_here", "_law_end"] sp_bare) (c_span : CalD P w K mg base 3 "_law_span" s_span ["_law_pot_here", "_law_taken"] sp_span) (c_not_in : CalD P w K mg base 5 "_law_not_in" s_not_in ["_law_table", "_law_start", "_law_goal"] (sp_not_in C_Levels C_NotIn)) : CalD P w K mg base 6 "_law_right" s_right ["_law_pot_here", "_law_table", "_law_spans_here"] (sp_right C_Levels) := by
  refine calD d_right sc_right (fun ds μ Q E h => by unfold sp_right at h; split at h <;> first | rfl | exact h.elim) ?_
  intro f cdv A outer s H EX ds μ Q E hg hr tk hp h
  obtain ⟨hu, hu1, hu2⟩ := rooms hr
  refine ⟨_, (jss_cons (js_set 3 (je_cb (cd_sorted false hu) T.n_sorted (ja_cons (je_name 2) ja_nil)) sc_right.nd)
      (jss_cons (js_set 4 (jm (ks := []) (n := 1) (idx := []) (je_name 1) T.cl_Levels c_Levels_spans hr (by decide) hg tkN (fun _ _ _ _ _ _ us ws h1 h2 => match us, ws, h1, h2 with | [_], [], _, _ => rfl) jc_0) sc_right.nd)
      (jss_cons (js_if (jt_w (jw_or (jt_not (jt_val (je_cb cd_isi T.n_isinstance (ja_cons (je_name 4) (ja_cons (je_ty T.n_list (by rfl)) ja_nil))))) (jw_or (jt_cmp (od_ne hu) (je_cb (cd_repr hg hu) T.n_repr (ja_cons (je_name 4) ja_nil)) (je_cb (cd_repr hg hu) T.n_repr (ja_cons (je_name 3) ja_nil))) (jw_or1 (jt_cmp (od_ne hu) (jlen c_Levels___len__ hr (by decide) hg (fun _ _ _ _ _ _ us ws h1 h2 => match us, ws, h1, h2 with | [_], [], _, _ => rfl) T.n_len (ja_cons (je_name 1) ja_nil)) (je_cb cd_len T.n_len (ja_cons (je_name 3) ja_nil))))))) (jss_one (js_ret je_bl)) jss_nil)
      (jss_cons (js_expr (je_ml PySem.F.slot_list_append PySem.F.type_list_append md_append (je_name 4) (ja_cons (je_tup (ja_cons je_int (ja_cons je_int ja_nil))) ja_nil)))
      (jss_cons (js_set 5 (je_lst true (ja_cons je_int (ja_cons je_int (ja_cons (jf (ks := []) (n := 2) (idx := []) c_draw hr (by decide) hg tkN (fun _ _ _ _ _ _ us ws h1 h2 => match us, ws, h1, h2 with | [_, _], [], _, _ => rfl) (jc_p (ja_cons (je_name 0) (ja_cons (je_op od_pow je_int je_int) ja_nil)))) ja_nil)))) sc_right.nd)
      (jss_cons (js_for hp (ji_range1 T.n_range (ja_cons (je_op (od_mul false) je_int (je_cty cd_int T.n_int (ja_cons (je_cmp (od_ne hu) (je_name 3) (je_lst false ja_nil)) ja_nil))) ja_nil)) (jg_name 6 sc_right.nd) (jss_cons (js_asg (jf (ks := []) (n := 2) (idx := []) c_among hr (by decide) hg tkN (fun _ _ _ _ _ _ us ws h1 h2 => match us, ws, h1, h2 with | [_, _], [], _, _ => rfl) (jc_p (ja_cons (je_name 0) (ja_cons (je_name 3) ja_nil)))) (jg_tup 2 rfl (jgs_cons (jg_name 7 sc_right.nd) (jgs_cons (jg_name 8 sc_right.nd) jgs_nil))))
      (jss_one (js_expr (je_ml PySem.F.slot_list_extend PySem.F.type_list_extend md_extend (je_name 5) (ja_cons (je_lst false (ja_cons (je_cb (cd_max2 rfl) T.n_max (ja_cons je_int (ja_cons (je_op od_sub (je_name 7) je_int) ja_nil))) (ja_cons (je_name 7) (ja_cons (je_cb (cd_max2 rfl) T.n_max (ja_cons je_int (ja_cons (je_op od_sub (je_name 8) je_int) ja_nil))) (ja_cons (je_name 8) ja_nil))))) ja_nil))))))
      (jss_cons (js_for hp (ji_list (je_name 5)) (jg_name 9 sc_right.nd) (jss_cons (js_if (jt_cmp (od_ne hu) (jm (ks := []) (n := 2) (idx := []) (je_name 1) T.cl_Levels c_Levels_crossing hr (by decide) hg tkN (fun _ _ _ _ _ _ us ws h1 h2 => match us, ws, h1, h2 with | [_, _], [], _, _ => rfl) (jc_p (ja_cons (je_name 9) ja_nil))) (jf (ks := []) (n := 2) (idx := []) c_crossing hr (by decide) hg tkN (fun _ _ _ _ _ _ us ws h1 h2 => match us, ws, h1, h2 with | [_, _], [], _, _ => rfl) (jc_p (ja_cons (je_name 3) (ja_cons (je_name 9) ja_nil))))) (jss_one (js_ret je_bl)) jss_nil)
      (jss_one (js_if (jt_cmp (od_ne hu) (je_cb (cd_repr hg hu) T.n_repr (ja_cons (jm (ks := []) (n := 2) (idx := []) (je_name 1) T.cl_Levels c_Levels_bare_below hr (by decide) hg tkN (fun _ _ _ _ _ _ us ws h1 h2 => match us, ws, h1, h2 with | [_, _], [], _, _ => rfl) (jc_p (ja_cons (je_name 9) ja_nil))) ja_nil)) (je_cb (cd_repr hg hu) T.n_repr (ja_cons (jf (ks := []) (n := 2) (idx := []) c_bare hr (by decide) hg tkN (fun _ _ _ _ _ _ us ws h1 h2 => match us, ws, h1, h2 with | [_, _], [], _, _ => rfl) (jc_p (ja_cons (je_name 3) (ja_cons (je_name 9) ja_nil)))) ja_nil))) (jss_one (js_ret je_bl)) jss_nil))))
      (jss_cons (js_asg (jf (ks := []) (n := 2) (idx := []) c_span hr (by decide) hg tkN (fun _ _ _ _ _ _ us ws h1 h2 => match us, ws, h1, h2 with | [_, _], [], _, _ => rfl) (jc_p (ja_cons (je_name 0) (ja_cons (je_name 3) ja_nil)))) (jg_tup 2 rfl (jgs_cons (jg_name 7 sc_right.nd) (jgs_cons (jg_name 8 sc_right.nd) jgs_nil))))
      (jss_cons (js_if (jt_w (jw_and (jt_cmp (od_notin hu) (je_tup (ja_cons (je_name 7) (ja_cons (je_name 8) ja_nil))) (je_name 3)) (jw_and1 (jt_not (jt_val (jf (ks := []) (n := 3) (idx := []) c_not_in hr (by decide) hg tkN (fun _ _ _ _ _ _ us ws h1 h2 => match us, ws, h1, h2 with | [_, _, _], [], _, _ => rfl) (jc_p (ja_cons (je_name 1) (ja_cons (je_name 7) (ja_cons (je_name 8) ja_nil)))))))))) (jss_one (js_ret je_bl)) jss_nil)
      (jss_one (js_ret (je_cmp (od_eq hu) (je_cb (cd_repr hg hu) T.n_repr (ja_cons (jm (ks := []) (n := 1) (idx := []) (je_name 1) T.cl_Levels c_Levels_spans hr (by decide) hg tkN (fun _ _ _ _ _ _ us ws h1 h2 => match us, ws, h1, h2 with | [_], [], _, _ => rfl) jc_0) ja_nil)) (je_cb (cd_repr hg hu) T.n_repr (ja_cons (je_name 3) ja_nil)))))))))))))), ?_⟩
  clear hr hg tk hp hu hu1 hu2
  unfold sp_right at h
  split at h
  case h_2 => exact h.elim
  rename_i p t r
  obtain ⟨S, a, b, oft, rs, hp1, L, hr, hl, hS, hc, hR, hl2, q⟩ := h
  have ho := L.ob
  have ho2 := L.of
  have ho3 := L.ri
  have hsz := hc.size
  have hS0 : ∀ s ∈ S, 0 ≤ s.1 ∧ 0 ≤ s.2 := fun s hs => ⟨(hS s hs).1, (hS s hs).2.1⟩
  have hb : ∀ s ∈ S, s.1.natAbs < 10 ^ 40 ∧ s.2.natAbs < 10 ^ 40 := fun s hs => by
    have h1 := hS s hs
    unfold okS at h1
    omega
  have hb2 : ∀ s ∈ sortP S, s.1.natAbs < 10 ^ 40 ∧ s.2.natAbs < 10 ^ 40 := fun s hs => hb s ((sortP_perm S).mem_iff.mp hs)
  have hsl := sortP_len S
  have pm := sortP_perm S
  obtain ⟨m, hB⟩ := Bare.ex_ hS0
  walk_at "dl go"
  walk_at "dl rd"
  refine rd_sortedL hr (by omega) ?_
  walk_at "dl rd"
  refine ⟨a, b, oft, rs, S, L, hc, by omega, fun l hl0 => ?_⟩
  have hl0' := hl0
  walk_at "dl rd"
  refine rd_isi (n := "list") (b := true) (.inl ⟨⟨_, put_same⟩, rfl⟩) (by decide +kernel) ?_
  walk_at "dl kb"
  refine rd_reprPa put_same hb2 (by omega) ?_
  walk_at "dl rd"
  refine rd_reprPl hb2 (by omega) ?_
  walk_at "dl rd"
  refine rd_brF (by simp) ?_
  walk_at "dl rd"
  refine ⟨t, _, rfl, by walk_at "dl mu", ?_⟩
  refine ⟨a, b, oft, rs, S, ⟨by walk_at "dl mu", by walk_at "dl mu", by walk_at "dl mu"⟩, hc, by omega, S.length, rfl, by omega, by omega, ?_⟩
  walk_at "dl rd"
  rw [List.length_map, hsl]
  walk_at "dl rd"
  refine rd_brF (by simp) ?_
  walk_at "dl rd"
  refine ⟨by walk_at "dl mu", by decide, by decide, fun d0 d00 d01 => ?_⟩
  walk_at "dl rd"
  refine rd_newT fun v hv => ?_
  have pot1 : put (put μ l (.lst ((sortP S).map spD))) l (.lst ((sortP S).map spD ++ [.tup [.int 0, .int 1]])) p = some .pot := by walk_at "dl mu"
  have L1 : Lv C_Levels (put (put μ l (.lst ((sortP S).map spD))) l (.lst ((sortP S).map spD ++ [.tup [.int 0, .int 1]]))) t a b oft rs := ⟨by walk_at "dl mu", by walk_at "dl mu", by walk_at "dl mu"⟩
  have ls1 : Less (put (put μ l (.lst ((sortP S).map spD))) l (.lst ((sortP S).map spD ++ [.tup [.int 0, .int 1]]))) μ := (less1 hl0').put hl0'
  generalize put (put μ l (.lst ((sortP S).map spD))) l (.lst ((sortP S).map spD ++ [.tup [.int 0, .int 1]])) = ν at pot1 L1 ls1 hv ⊢
  have g1 := L1.ob
  have g2 := L1.of
  have g3 := L1.ri
  have pot2 : ∀ u, put ν v u p = some .pot := fun u => put_at pot1 (ne_no pot1 hv)
  have L2 : ∀ u, Lv C_Levels (put ν v u) t a b oft rs := fun u => ⟨put_at g1 (ne_no g1 hv), put_at g2 (ne_no g2 hv), put_at g3 (ne_no g3 hv)⟩
  have g2' : ∀ u, put ν v u t = some (.ins C_Levels [("often", .at a), ("rises", .at b)]) := fun u => (L2 u).ob
  walk_at "dl rd"
  refine rd_neL (ds := (sortP S).map spD) rfl (rss_sp _) ?_
  rw [List.isEmpty_map]
  walk_at "dl rd"
  refine rd_intB ?_
  walk_at "dl rd"
  have hne : (if (!(sortP S).isEmpty) = true then (1 : Int) else 0) ≠ 0 → (sortP S).map spD ≠ [] := fun z e => by
    rw [List.map_eq_nil_iff] at e
    rw [e] at z
    exact z rfl
  have h01 : 0 ≤ (if (!(sortP S).isEmpty) = true then (1 : Int) else 0) ∧ (if (!(sortP S).isEmpty) = true then (1 : Int) else 0) ≤ 1 := by split <;> omega
  generalize (if (!(sortP S).isEmpty) = true then (1 : Int) else 0) = c at hne h01 ⊢
  walk_at "dl rd"
  refine ⟨fun i ρ μ' => ∃ ls : List Int, (∃ x6 x7 x8 x9, ρ = [some (.at p), some (.at t), some (.at r), some (.lst ((sortP S).map spD)), some (.at l), some (.at v), x6, x7, x8, x9]) ∧ μ' = put ν v (.lst (ls.map .int)) ∧ (∀ x ∈ ls, 0 ≤ x) ∧ ls.length ≤ 3 + 4 * i, wk.same ⟨[0, 1, d0], ⟨_, _, _, _, rfl⟩, rfl, ?_, by simp⟩, fun _ _ _ _ _ => trivial, ?_, ?_⟩
  · intro x hx
    simp only [List.mem_cons, List.not_mem_nil, or_false] at hx
    omega
  · rintro i d ρ μ' hd ⟨ls, ⟨x6, x7, x8, x9, rfl⟩, rfl, h0, hlen⟩
    have hi := (List.getElem?_eq_some_iff.mp hd).1
    rw [List.length_map, List.length_range] at hi
    walk_at "dl rd"
    refine ⟨(sortP S).map spD, pot2 _, rfl, hne (by omega), by rw [List.length_map]; omega, fun d hd => ?_⟩
    obtain ⟨s, hs, rfl⟩ := List.mem_map.mp hd
    have h1 := hS0 s (pm.mem_iff.mp hs)
    unfold spD
    walk_at "dl rd"
    refine rd_extl put_same (by rw [List.length_map]; simp; omega) ?_
    rw [put_put]
    refine wk.same ⟨ls ++ [(if s.1 - 1 > 0 then s.1 - 1 else 0), s.1, (if s.2 - 1 > 0 then s.2 - 1 else 0), s.2], ⟨_, _, _, _, rfl⟩, ?_, fun x hx => ?_, ?_⟩
    · rw [List.map_append]
      rfl
    · rcases List.mem_append.mp hx with z | z
      · exact h0 x z
      · have e1 : 0 ≤ (if s.1 - 1 > 0 then s.1 - 1 else 0) := by split <;> omega
        have e2 : 0 ≤ (if s.2 - 1 > 0 then s.2 - 1 else 0) := by split <;> omega
        simp only [List.mem_cons, List.not_mem_nil, or_false] at z
        omega
    · rw [List.length_append]
      simp
      omega
  · rintro ρ μ' ⟨ls, ⟨x6, x7, x8, x9, rfl⟩, rfl, h0, hlen⟩
    have L3 := L2 (.lst (ls.map .int))
    have pot3 := pot2 (.lst (ls.map .int))
    have g4 := L3.ob
    have ls3 : Less (put ν v (.lst (ls.map .int))) μ := (less1 hv).trans ls1
    have hvs : put ν v (.lst (ls.map .int)) v = some (.lst (ls.map .int)) := put_same
    generalize put ν v (.lst (ls.map .int)) = ν3 at L3 pot3 g4 ls3 hvs ⊢
    have hBp : Bare (sortP S) m := hB.perm pm.symm
    have hS2 : ∀ s ∈ sortP S, 0 ≤ s.1 ∧ 0 ≤ s.2 := fun s hs => hS0 s (pm.mem_iff.mp hs)
    have hm40 : m.natAbs < 10 ^ 40 := by
      rcases List.mem_cons.mp (hB.in_cands hS0) with rfl | z
      · decide
      · obtain ⟨s, hs, rfl⟩ := List.mem_map.mp z
        have := hb s hs
        omega
    walk_at "dl rd"
    refine ⟨fun i ρ μ' => (∃ y7 y8 y9, ρ = [some (.at p), some (.at t), some (.at r), some (.lst ((sortP S).map spD)), some (.at l), some (.at v), x6, y7, y8, y9]) ∧ μ' = ν3, wk.same ⟨⟨_, _, _, rfl⟩, rfl⟩, ?_, ?_, ?_⟩
    · rintro i ρ μ' hi ⟨_, rfl⟩
      exact .inl hvs
    · rintro i d ρ μ' hd ⟨⟨y7, y8, y9, rfl⟩, rfl⟩
      obtain ⟨e, he, _, rfl⟩ := map_get hd
      walk_at "dl rd"
      refine ⟨a, b, oft, rs, L3, by omega, h0 e he, ?_⟩
      rw [hR.sum e]
      walk_at "dl rd"
      refine ⟨sortP S, rfl, by omega, ?_⟩
      rw [cr_perm pm e]
      walk_at "dl rd"
      refine rd_brF (by simp) ?_
      walk_at "dl rd"
      refine ⟨a, b, oft, rs, S, m, L3, hR, hl2, hS0, h0 e he, hB, ?_⟩
      by_cases c1 : m < e
      · rw [if_pos c1]
        refine rd_reprI hm40 ?_
        walk_at "dl rd"
        refine ⟨sortP S, m, rfl, by omega, hS2, hBp, ?_⟩
        rw [if_pos c1]
        refine rd_reprI hm40 ?_
        walk_at "dl rd"
        refine rd_brF (by simp) ?_
        exact wk.same ⟨⟨_, _, _, rfl⟩, rfl⟩
      · rw [if_neg c1]
        refine rd_reprN ?_
        walk_at "dl rd"
        refine ⟨sortP S, m, rfl, by omega, hS2, hBp, ?_⟩
        rw [if_neg c1]
        refine rd_reprN ?_
        walk_at "dl rd"
        refine rd_brF (by simp) ?_
        exact wk.same ⟨⟨_, _, _, rfl⟩, rfl⟩
    · rintro ρ μ' ⟨⟨y7, y8, y9, rfl⟩, rfl⟩
      walk_at "dl rd"
      refine ⟨sortP S, 10 ^ 31, pot3, rfl, by omega, by decide, by decide, fun s hs => hS s (pm.mem_iff.mp hs), fun s hs => ?_⟩
      unfold okS at hs
      rw [show spD s = D.tup [.int s.1, .int s.2] from rfl]
      walk_at "dl rd"
      refine rd_inPs (S := sortP S) (n := true) rfl ?_
      rw [if_pos rfl]
      by_cases hin : (s.1, s.2) ∈ sortP S
      · rw [decide_eq_true hin]
        walk_at "dl kb"
        refine ⟨a, b, oft, rs, S, L3, hc, by omega, fun l3 hl3 => ?_⟩
        walk_at "dl rd"
        refine rd_reprPa put_same hb2 (by omega) ?_
        walk_at "dl rd"
        refine rd_reprPl hb2 (by omega) ?_
        walk_at "dl rd"
        rw [decide_eq_true rfl]
        exact wkR.less ((less1 hl3).trans ls3) q
      · rw [decide_eq_false hin]
        walk_at "dl kb"
        refine ⟨a, b, oft, rs, L3, by omega, by omega, hs.1, hs.2.1, hc.none_of fun z => hin (pm.mem_iff.mpr z), ?_⟩
        walk_at "dl kb"
        refine ⟨a, b, oft, rs, S, L3, hc, by omega, fun l3 hl3 => ?_⟩
        walk_at "dl rd"
        refine rd_reprPa put_same hb2 (by omega) ?_
        walk_at "dl rd"
        refine rd_reprPl hb2 (by omega) ?_
        walk_at "dl rd"
        rw [decide_eq_true rfl]
        exact wkR.less ((less1 hl3).trans ls3) q
def sp_mixed : SpD := fun ds μ Q _ => match ds with
  | [.at p, e] => ∃ S : List Sp2, μ p = some .pot ∧ Ls μ e (S.map spD) ∧ S.length ≤ 1000 ∧ ∀ T : List Sp2, T.Perm S → Q (.lst (T.map spD)) μ
  | _ => False
theorem sc_mixed : FnScope ["_law_pot_here", "_law_some", "_law_left", "_law_turn"] ["_law_pot_here", "_law_some"] (defScope s_mixed) := ⟨rfl, rfl, rfl, by decide +kernel, rfl, by decide +kernel, by decide +kernel⟩
theorem g_mixed (T : Txt K mg C_Levels C_NoHand C_NoSlot C_NoSuch C_NoThing C_NotHad C_NotIn C_StoreError) (d_mixed : Def0 K mg "_law_mixed" s_mixed) (c_draw : CalD P w K mg base 1 "_law_draw" s_draw ["_law_pot_here", "_law_many"] sp_draw) : CalD P w K mg base 2 "_law_mixed" s_mixed ["_law_pot_here", "_law_some"] sp_mixed := by
  refine calD d_mixed sc_mixed (fun ds μ Q E h => by unfold sp_mixed at h; split at h <;> first | rfl | exact h.elim) ?_
  intro f cdv A outer s H EX ds μ Q E hg hr tk hp h
  obtain ⟨hu, hu1, hu2⟩ := rooms hr
  refine ⟨_, (jss_cons (js_set 2 (je_cty (cd_list true) T.n_list (ja_cons (je_name 1) ja_nil)) sc_mixed.nd)
      (jss_one (js_ret (je_lc (own := [("_law_turn", 3)]) (g := gName 3) sc_mixed.nd (ji_range1 T.n_range (ja_cons (je_cb cd_len T.n_len (ja_cons (je_name 1) ja_nil)) ja_nil)) (blkOk_by (own := [("_law_turn", 3)]) (sc := defScope s_mixed) (N := ["_law_pot_here", "_law_some", "_law_left", "_law_turn"]) (by decide +kernel)) (ct_name 3) (fun _ _ _ _ _ => (pg_name (i := 3) sc_mixed.nd rfl (by first | exact Or.inl rfl | exact Or.inr rfl))) (fun _ _ _ _ _ => jts_nil) (fun _ _ _ _ _ => (je_ml PySem.F.slot_list_pop PySem.F.type_list_pop md_popAt (je_name 2) (ja_cons (jf (ks := []) (n := 2) (idx := []) c_draw hr (by decide) hg tkN (fun _ _ _ _ _ _ us ws h1 h2 => match us, ws, h1, h2 with | [_, _], [], _, _ => rfl) (jc_p (ja_cons (je_name 0) (ja_cons (je_cb cd_len T.n_len (ja_cons (je_name 2) ja_nil)) ja_nil)))) ja_nil))))))), ?_⟩
  clear hr hg tk hp hu hu1 hu2
  unfold sp_mixed at h
  split at h
  case h_2 => exact h.elim
  rename_i p e
  obtain ⟨S, hp1, he, hl, q⟩ := h
  walk_at "dl go"
  walk_at "dl rd"
  refine rd_listL he ?_
  refine rd_newT fun l hl0 => ?_
  have he2 : Ls (put μ l (.lst (S.map spD))) e (S.map spD) := by
    cases e with
    | lst xs => exact he
    | «at» k => exact put_at he (ne_no he hl0)
    | _ => exact he.elim
  walk_at "dl rd"
  refine rd_lenL he2 ?_
  refine rd_rng ⟨by rw [List.length_map]; omega, by rw [List.length_map]; omega⟩ ?_
  refine lc_st (U := fun T : List Sp2 => put μ l (.lst (T.map spD))) (R := fun i T acc => ∃ W : List Sp2, acc = W.map spD ∧ W.length = i ∧ T.length + i = S.length ∧ (W ++ T).Perm S) S ?_ rfl ⟨[], rfl, rfl, rfl, .refl _⟩ ?_ ?_ ?_ ?_
  · rw [List.length_map, List.length_range, List.length_map]
    omega
  · intro T L hL
    (repeat (have ⟨_, hL⟩ := no_put hL))
    exact put_no (by assumption) (by assumption)
  · exact fun _ _ _ _ _ _ _ => trivial
  · rintro T acc hacc ⟨W, rfl, hW, hT, hP⟩
    rw [List.length_map, List.length_range, List.length_map] at hW hT
    have hz : T = [] := List.length_eq_zero_iff.mp (by omega)
    subst hz
    rw [List.append_nil] at hP
    exact wkR.less ((Less.refl μ).put hl0) (q W hP)
  · rintro L i d T acc K1 K2 hL hacc hd ⟨W, rfl, hW, hT, hP⟩ k1 k2
    have hi := (List.getElem?_eq_some_iff.mp hd).1
    rw [List.length_map, List.length_range, List.length_map] at hi
    (repeat (have ⟨_, hL⟩ := no_put hL))
    have hlL : l ≠ L := Ne.symm (by assumption)
    walk_at "dl rd"
    refine rd_brT rfl ?_
    walk_at "dl rd"
    refine ⟨by walk_at "dl mu", by simp; omega, by simp; omega, fun j j0 j1 => ?_⟩
    rw [List.length_map] at j1
    refine rd_pop (f := spD) (S := T) (by walk_at "dl mu") j0 j1 (by omega) fun x T' hP' hl' => ?_
    rw [put_comm (Ne.symm hlL), put_put]
    have := k1 (spD x) T' ⟨W ++ [x], by rw [List.map_append]; rfl, by simp [hW], by omega, by
      refine List.Perm.trans ?_ hP
      rw [List.append_assoc]
      exact (List.Perm.append_left W hP'.symm)⟩
    rw [put_comm hlL] at this ⊢
    first | exact this | (rw [put_comm hlL]; exact this)
def sp_Levels___eq__ (C_Levels : Addr) : SpD := fun ds μ Q _ => match ds with
  | [.at t, e] => ∃ a b oft rs S, Lv C_Levels μ t a b oft rs ∧ Cnt oft S ∧ ((∃ u a' b' oft' rs' T, e = .at u ∧ Lv C_Levels μ u a' b' oft' rs' ∧ Cnt oft' T ∧ Q (.bl (decide (S.Perm T))) μ) ∨ (∃ n, n ∈ dataTys ∧ kindD μ e n) ∧ Q (.bl false) μ)
  | _ => False
theorem sc_Levels___eq__ : FnScope ["self", "other"] ["self", "other"] (defScope s_Levels___eq__) := ⟨rfl, rfl, rfl, by decide +kernel, rfl, by decide +kernel, by decide +kernel⟩
theorem g_Levels___eq__ (T : Txt K mg C_Levels C_NoHand C_NoSlot C_NoSuch C_NoThing C_NotHad C_NotIn C_StoreError) (d_Levels___eq__ : Met0 K C_Levels "__eq__" "Levels.__eq__" s_Levels___eq__)  : MetD P w K mg base 1 C_Levels "__eq__" "Levels.__eq__" s_Levels___eq__ ["self", "other"] (sp_Levels___eq__ C_Levels) := by
  refine metD d_Levels___eq__ sc_Levels___eq__ (fun ds μ Q E h => by unfold sp_Levels___eq__ at h; split at h <;> first | rfl | exact h.elim) ?_
  intro f cdv A outer s H EX ds μ Q E hg hr tk hp h
  obtain ⟨hu, hu1, hu2⟩ := rooms hr
  refine ⟨_, (jss_one (js_ret (je_and (je_cb (cd_isiO T.ci_Levels) T.n_isinstance (ja_cons (je_name 1) (ja_cons (je_gref T.g_Levels) ja_nil))) (je_one (je_cmp (od_eqT hu1) (je_fld T.cl_Levels T.na_Levels_often (je_name 0)) (je_fld T.cl_Levels T.na_Levels_often (je_name 1))))))), ?_⟩
  clear hr hg tk hp hu hu1 hu2
  unfold sp_Levels___eq__ at h
  split at h
  case h_2 => exact h.elim
  rename_i t e
  obtain ⟨a, b, oft, rs, S, ⟨h1, h2, h3⟩, hc, h⟩ := h
  walk_at "dl go"
  rcases h with ⟨u, a', b', oft', rs', T', rfl, ⟨g1, g2, g3⟩, hc', q⟩ | ⟨⟨n, hn, hk⟩, q⟩
  · walk_at "dl rd"
    refine rd_isO g1 ?_
    refine rd_brT rfl ?_
    walk_at "dl rd"
    refine rd_eqT h2 g2 ?_
    rw [hc.eqT hc']
    exact wkR.same q
  · walk_at "dl rd"
    refine rd_isN' T.ap_Levels hk hn ?_
    refine rd_brF rfl ?_
    exact wkR.same q
def sp_law : SpD := fun ds μ Q _ => match ds with
  | [.at a] => ∃ ns : List Int, μ a = some (.ro (ns.map .int)) ∧ ns.length ≤ 63 ∧ Q (.bl true) μ
  | _ => False
theorem law_end (a : Addr) (ns : List Int) (h : ns.length ≤ 63) : sp_law [.at a] (scriptMu a ns) (fun d _ => d = .bl true) noX := ⟨ns, put_same, h, rfl⟩
theorem sc_law : FnScope ["_law_script", "_law_k", "_law_pot_here", "_law_table", "_law_put", "_law_spans_here", "_law_start", "_law_goal"] ["_law_script"] (defScope s_law) := ⟨rfl, rfl, rfl, by decide +kernel, rfl, by decide +kernel, by decide +kernel⟩
theorem g_law (T : Txt K mg C_Levels C_NoHand C_NoSlot C_NoSuch C_NoThing C_NotHad C_NotIn C_StoreError) (d_law : Def0 K mg "law" s_law) (c_pot : CalD P w K mg base 2 "_law_pot" s_pot ["_law_script", "_law_k"] sp_pot) (c_Levels___init__ : MakD P w K mg base 1 "Levels" C_Levels "Levels.__init__" s_Levels___init__ ["self"] (sp_Levels___init__ C_Levels)) (c_spans : CalD P w K mg base 4 "_law_spans" s_spans ["_law_pot_here", "_law_many"] sp_spans) (c_draw : CalD P w K mg base 1 "_law_draw" s_draw ["_law_pot_here", "_law_many"] sp_draw) (c_Levels_put_span : MetD P w K mg base 4 C_Levels "put_span" "Levels.put_span" s_Levels_put_span ["self", "low", "high"] (sp_Levels_put_span C_Levels)) (c_right : CalD P w K mg base 6 "_law_right" s_right ["_law_pot_here", "_law_table", "_law_spans_here"] (sp_right C_Levels)) (c_mixed : CalD P w K mg base 2 "_law_mixed" s_mixed ["_law_pot_here", "_law_some"] sp_mixed) (c_Levels_take_span : MetD P w K mg base 4 C_Levels "take_span" "Levels.take_span" s_Levels_take_span ["self", "low", "high"] (sp_Levels_take_span C_Levels C_NotIn)) (c_Levels___len__ : MetD P w K mg base 2 C_Levels "__len__" "Levels.__len__" s_Levels___len__ ["self"] (sp_Levels___len__ C_Levels)) (c_Levels___eq__ : MetD P w K mg base 1 C_Levels "__eq__" "Levels.__eq__" s_Levels___eq__ ["self", "other"] (sp_Levels___eq__ C_Levels)) (c_not_in : CalD P w K mg base 5 "_law_not_in" s_not_in ["_law_table", "_law_start", "_law_goal"] (sp_not_in C_Levels C_NotIn)) : CalD P w K mg base 7 "law" s_law ["_law_script"] sp_law := by
  refine calD d_law sc_law (fun ds μ Q E h => by unfold sp_law at h; split at h <;> first | rfl | exact h.elim) ?_
  intro f cdv A outer s H EX ds μ Q E hg hr tk hp h
  obtain ⟨hu, hu1, hu2⟩ := rooms hr
  refine ⟨_, (jss_cons (js_for hp (ji_range1 T.n_range (ja_cons (je_cb (cd_max2 rfl) T.n_max (ja_cons je_int (ja_cons (je_cb (cd_min2 rfl) T.n_min (ja_cons je_int (ja_cons (je_cb cd_len T.n_len (ja_cons (je_name 0) ja_nil)) ja_nil))) ja_nil))) ja_nil)) (jg_name 1 sc_law.nd) (jss_cons (js_set 2 (jf (ks := []) (n := 2) (idx := []) c_pot hr (by decide) hg tkN (fun _ _ _ _ _ _ us ws h1 h2 => match us, ws, h1, h2 with | [_, _], [], _, _ => rfl) (jc_p (ja_cons (je_name 0) (ja_cons (je_name 1) ja_nil)))) sc_law.nd)
      (jss_cons (js_par3 3 4 5 (ja_cons (jk (ks := []) (n := 1) (idx := []) c_Levels___init__ hr (by decide) hg tkN (fun _ _ _ _ _ _ us ws h1 h2 => match us, ws, h1, h2 with | [_], [], _, _ => rfl) jc_0) (ja_cons (je_lst true ja_nil) (ja_cons (jf (ks := []) (n := 2) (idx := []) c_spans hr (by decide) hg tkN (fun _ _ _ _ _ _ us ws h1 h2 => match us, ws, h1, h2 with | [_, _], [], _, _ => rfl) (jc_p (ja_cons (je_name 2) (ja_cons (jf (ks := []) (n := 2) (idx := []) c_draw hr (by decide) hg tkN (fun _ _ _ _ _ _ us ws h1 h2 => match us, ws, h1, h2 with | [_, _], [], _, _ => rfl) (jc_p (ja_cons (je_name 2) (ja_cons je_int ja_nil)))) ja_nil)))) ja_nil))) sc_law.nd)
      (jss_cons (js_for hp (ji_list (je_name 5)) (jg_tup 2 rfl (jgs_cons (jg_name 6 sc_law.nd) (jgs_cons (jg_name 7 sc_law.nd) jgs_nil))) (jss_cons (js_if (jt_cmp od_notN (jm (ks := []) (n := 3) (idx := []) (je_name 3) T.cl_Levels c_Levels_put_span hr (by decide) hg tkN (fun _ _ _ _ _ _ us ws h1 h2 => match us, ws, h1, h2 with | [_, _, _], [], _, _ => rfl) (jc_p (ja_cons (je_name 6) (ja_cons (je_name 7) ja_nil)))) je_non) (jss_one (js_ret je_bl)) jss_nil)
      (jss_cons (js_expr (je_ml PySem.F.slot_list_append PySem.F.type_list_append md_append (je_name 4) (ja_cons (je_tup (ja_cons (je_name 6) (ja_cons (je_name 7) ja_nil))) ja_nil)))
      (jss_one (js_if (jt_not (jt_val (jf (ks := []) (n := 3) (idx := []) c_right hr (by decide) hg tkN (fun _ _ _ _ _ _ us ws h1 h2 => match us, ws, h1, h2 with | [_, _, _], [], _, _ => rfl) (jc_p (ja_cons (je_name 2) (ja_cons (je_name 3) (ja_cons (je_name 4) ja_nil))))))) (jss_one (js_ret je_bl)) jss_nil)))))
      (jss_cons (js_for hp (ji_list (jf (ks := []) (n := 2) (idx := []) c_mixed hr (by decide) hg tkN (fun _ _ _ _ _ _ us ws h1 h2 => match us, ws, h1, h2 with | [_, _], [], _, _ => rfl) (jc_p (ja_cons (je_name 2) (ja_cons (je_name 5) ja_nil))))) (jg_tup 2 rfl (jgs_cons (jg_name 6 sc_law.nd) (jgs_cons (jg_name 7 sc_law.nd) jgs_nil))) (jss_cons (js_if (jt_cmp od_notN (jm (ks := ["high", "low"]) (n := 1) (idx := [1, 0]) (je_name 3) T.cl_Levels c_Levels_take_span hr (by decide) hg tkN (fun _ _ _ _ _ _ us ws h1 h2 => match us, ws, h1, h2 with | [_], [_, _], _, _ => rfl) (jc_k (jk_cons (je_name 7) (jk_cons (je_name 6) jk_nil)))) je_non) (jss_one (js_ret je_bl)) jss_nil)
      (jss_cons (js_expr (je_ml PySem.F.slot_list_remove PySem.F.type_list_remove (md_remove hu) (je_name 4) (ja_cons (je_tup (ja_cons (je_name 6) (ja_cons (je_name 7) ja_nil))) ja_nil)))
      (jss_one (js_if (jt_not (jt_val (jf (ks := []) (n := 3) (idx := []) c_right hr (by decide) hg tkN (fun _ _ _ _ _ _ us ws h1 h2 => match us, ws, h1, h2 with | [_, _, _], [], _, _ => rfl) (jc_p (ja_cons (je_name 2) (ja_cons (je_name 3) (ja_cons (je_name 4) ja_nil))))))) (jss_one (js_ret je_bl)) jss_nil)))))
      (jss_one (js_if (jt_w (jw_or (jt_cmp (od_ne hu) (jlen c_Levels___len__ hr (by decide) hg (fun _ _ _ _ _ _ us ws h1 h2 => match us, ws, h1, h2 with | [_], [], _, _ => rfl) T.n_len (ja_cons (je_name 3) ja_nil)) je_int) (jw_or (jt_not (jt_cmp (oeqO c_Levels___eq__ hr (by decide) hg (fun _ _ _ _ _ _ us ws h1 h2 => match us, ws, h1, h2 with | [_, _], [], _, _ => rfl)) (je_name 3) (jk (ks := []) (n := 1) (idx := []) c_Levels___init__ hr (by decide) hg tkN (fun _ _ _ _ _ _ us ws h1 h2 => match us, ws, h1, h2 with | [_], [], _, _ => rfl) jc_0))) (jw_or1 (jt_not (jt_val (jf (ks := []) (n := 3) (idx := []) c_not_in hr (by decide) hg tkN (fun _ _ _ _ _ _ us ws h1 h2 => match us, ws, h1, h2 with | [_, _, _], [], _, _ => rfl) (jc_p (ja_cons (je_name 3) (ja_cons je_int (ja_cons je_int ja_nil))))))))))) (jss_one (js_ret je_bl)) jss_nil)))))))
      (jss_one (js_ret je_bl))), ?_⟩
  clear hr hg tk hp hu hu1 hu2
  unfold sp_law at h
  split at h
  case h_2 => exact h.elim
  rename_i a0
  obtain ⟨ns, ha, hn, q⟩ := h
  have hcnt : (if (if ((ns.map D.int).length : Int) < 2 then ((ns.map D.int).length : Int) else 2) > 1 then (if ((ns.map D.int).length : Int) < 2 then ((ns.map D.int).length : Int) else 2) else 1).toNat ≤ 5 := by
    split <;> split <;> omega
  have hcnt2 : -(2 ^ 62) ≤ (if (if ((ns.map D.int).length : Int) < 2 then ((ns.map D.int).length : Int) else 2) > 1 then (if ((ns.map D.int).length : Int) < 2 then ((ns.map D.int).length : Int) else 2) else 1) ∧ (if (if ((ns.map D.int).length : Int) < 2 then ((ns.map D.int).length : Int) else 2) > 1 then (if ((ns.map D.int).length : Int) < 2 then ((ns.map D.int).length : Int) else 2) else 1) < 2 ^ 62 := by
    split <;> split <;> omega
  walk_at "dl go"
  walk_at "dl rd"
  generalize (if (if ((ns.map D.int).length : Int) < 2 then ((ns.map D.int).length : Int) else 2) > 1 then (if ((ns.map D.int).length : Int) < 2 then ((ns.map D.int).length : Int) else 2) else 1).toNat = cnt at hcnt ⊢
  refine ⟨fun i ρ μ' => μ' = μ ∧ ∃ x1 x2 x3 x4 x5 x6 x7, ρ = [some (.at a0), x1, x2, x3, x4, x5, x6, x7], wk.same ⟨rfl, _, _, _, _, _, _, _, rfl⟩, fun _ _ _ _ _ => trivial, ?_, fun ρ μ' ⟨hμ, _⟩ => (by subst hμ; walk_at "dl rd"; exact wkR.same q)⟩
  rintro i d ρ μ' hd ⟨hμ, x1, x2, x3, x4, x5, x6, x7, rfl⟩
  subst μ'
  obtain ⟨k, hk, _, rfl⟩ := map_get hd
  have hk2 : k < cnt := List.mem_range.mp hk
  walk_at "dl rd"
  refine ⟨ns, ha, by omega, by omega, fun p hp => ?_⟩
  walk_at "dl rd"
  intro t ht
  (repeat (have ⟨_, ht⟩ := no_put ht))
  refine ⟨put_same, fun ta tb hta htb htab hL1 => ⟨rfl, ?_⟩⟩
  (repeat (have ⟨_, hta⟩ := no_put hta))
  (repeat (have ⟨_, htb⟩ := no_put htb))
  walk_at "dl rd"
  refine rd_newT fun r hr => ?_
  (repeat (have ⟨_, hr⟩ := no_put hr))
  walk_at "dl rd"
  refine ⟨by walk_at "dl mu", by decide, by decide, fun n0 n00 n01 => ?_⟩
  walk_at "dl rd"
  refine ⟨by walk_at "dl mu", n00, by omega, fun W hW hWS => ?_⟩
  refine ⟨_, _, _, rfl, ?_⟩
  walk_at "dl rd"
  have nta : t ≠ ta := by walk_at "dl ne_tac"
  have ntb : t ≠ tb := by walk_at "dl ne_tac"
  refine ⟨fun i ρ μ' => ∃ oft rs, (∃ y6 y7, ρ = [some (.at a0), some (.int k), some (.at p), some (.at t), some (.at r), some (.lst (W.map spD)), y6, y7]) ∧ Lv C_Levels μ' t ta tb oft rs ∧ Cnt oft (W.take i) ∧ RiseS rs (W.take i) ∧ μ' r = some (.lst ((W.take i).map spD)) ∧ μ' p = some .pot ∧ Less μ' μ, wk.same ⟨[], [], ⟨_, _, rfl⟩, ⟨by walk_at "dl mu", by walk_at "dl mu", by walk_at "dl mu"⟩, .nil, .nil, by walk_at "dl mu", by walk_at "dl mu", by walk_at "dl less"⟩, fun _ _ _ _ _ => rfl, ?_, ?_⟩
  · rintro i d ρ μ' hd ⟨oft, rs, ⟨y6, y7, rfl⟩, L, hc, hR, hrl, hpot, hls⟩
    obtain ⟨s, hs, es, rfl⟩ := map_get hd
    have hi := (List.getElem?_eq_some_iff.mp es).1
    have h1 := hWS s hs
    unfold okS at h1
    have hz := hc.size
    have hz2 := hR.size
    have htk : (W.take i).length = i := by simp; omega
    have hc2 := hc.add s
    have hR2 := hR.add s
    rw [← take_succ_get es] at hc2 hR2
    have hz3 := hR2.size
    have htk3 : (W.take (i + 1)).length = i + 1 := by simp; omega
    have g1 := L.ob
    have g2 := L.of
    have g3 := L.ri
    rw [show spD s = D.tup [.int s.1, .int s.2] from rfl]
    walk_at "dl rd"
    refine ⟨ta, tb, oft, rs, L, by omega, by omega, h1.1, h1.2.1, ?_⟩
    walk_at "dl rd"
    refine rd_brF rfl ?_
    walk_at "dl rd"
    have el : (W.take i).map spD ++ [D.tup [.int s.1, .int s.2]] = (W.take (i + 1)).map spD := by
      rw [take_succ_get es, List.map_append]
      rfl
    rw [el]
    have f1 : Lv C_Levels (put (put (put μ' ta (.dT (enc kP (bump oft (s.1, s.2) 1)))) tb (.dK (enc kI (riseOf rs s)))) r (.lst ((W.take (i + 1)).map spD))) t ta tb (bump oft (s.1, s.2) 1) (riseOf rs s) := ⟨by walk_at "dl mu", by walk_at "dl mu", by walk_at "dl mu"⟩
    have f2 : put (put (put μ' ta (.dT (enc kP (bump oft (s.1, s.2) 1)))) tb (.dK (enc kI (riseOf rs s)))) r (.lst ((W.take (i + 1)).map spD)) p = some .pot := by walk_at "dl mu"
    have f3 : Less (put (put (put μ' ta (.dT (enc kP (bump oft (s.1, s.2) 1)))) tb (.dK (enc kI (riseOf rs s)))) r (.lst ((W.take (i + 1)).map spD))) μ := by walk_at "dl less"
    refine ⟨W.take (i + 1), ta, tb, _, _, f2, f1, put_same, by omega, fun x hx => hWS x (List.mem_of_mem_take hx), hc2, hR2, by omega, ?_⟩
    walk_at "dl rd"
    refine rd_brF rfl ?_
    exact wk.same ⟨_, _, ⟨_, _, rfl⟩, f1, hc2, hR2, put_same, f2, f3⟩
  · rintro ρ μ' ⟨oft, rs, ⟨y6, y7, rfl⟩, L, hc, hR, hrl, hpot, hls⟩
    rw [List.length_map, List.take_length] at hc hR hrl
    walk_at "dl rd"
    refine ⟨W, hpot, rfl, by omega, fun T hT => ?_⟩
    have hlT := hT.length_eq
    walk_at "dl rd"
    refine ⟨fun i ρ μ' => ∃ oft rs S, (∃ y6 y7, ρ = [some (.at a0), some (.int k), some (.at p), some (.at t), some (.at r), some (.lst (W.map spD)), y6, y7]) ∧ Lv C_Levels μ' t ta tb oft rs ∧ S.Perm (T.drop i) ∧ Cnt oft S ∧ RiseS rs S ∧ μ' r = some (.lst (S.map spD)) ∧ μ' p = some .pot ∧ Less μ' μ, wk.same ⟨oft, rs, W, ⟨_, _, rfl⟩, L, hT.symm, hc, hR, hrl, hpot, hls⟩, fun _ _ _ _ _ => rfl, ?_, ?_⟩
    · clear hc hR hrl L hpot hls
      rintro i d ρ μ' hd ⟨oft, rs, S, ⟨y6, y7, rfl⟩, L, hP, hc, hR, hrl, hpot, hls⟩
      obtain ⟨s, hs, es, rfl⟩ := map_get hd
      have hi := (List.getElem?_eq_some_iff.mp es).1
      have h1 := hWS s (hT.mem_iff.mp hs)
      unfold okS at h1
      have hz := hc.size
      have hz2 := hR.size
      have hSl := hP.length_eq
      rw [List.length_drop] at hSl
      have eD : T.drop i = s :: T.drop (i + 1) := by
        rw [List.drop_eq_getElem_cons hi, (List.getElem?_eq_some_iff.mp es).2]
      have hsS : s ∈ S := hP.mem_iff.mpr (by rw [eD]; exact List.mem_cons_self)
      have pe : S.Perm (s :: S.erase s) := List.perm_cons_erase hsS
      have hP2 : (S.erase s).Perm (T.drop (i + 1)) := List.Perm.cons_inv ((pe.symm.trans hP).trans (by rw [eD]))
      have hc2 := hc.del pe
      have hR2 := hR.del pe
      have hz3 : (riseOff rs (s.1, s.2)).length ≤ 2 * (S.erase s).length := hR2.size
      have hl3 := pe.length_eq
      rw [List.length_cons] at hl3
      have hsome : (getI oft (s.1, s.2)).isSome = true := some_of_val (by
        rw [hc.val]
        have := List.count_pos_iff.mpr hsS
        show (S.count s : Int) ≠ 0
        omega)
      have g1 := L.ob
      have g2 := L.of
      have g3 := L.ri
      rw [show spD s = D.tup [.int s.1, .int s.2] from rfl]
      walk_at "dl rd"
      refine ⟨ta, tb, oft, rs, L, by omega, by omega, h1.1, h1.2.1, fun z => (by rw [z] at hsome; cases hsome), fun _ => ?_⟩
      walk_at "dl rd"
      refine rd_brF rfl ?_
      walk_at "dl rd"
      refine rd_removeP (S := S) (by walk_at "dl mu") hsS ?_
      walk_at "dl rd"
      have f1 : Lv C_Levels (put (put (put μ' ta (.dT (enc kP (bump oft (s.1, s.2) (-1))))) tb (.dK (enc kI (riseOff rs (s.1, s.2))))) r (.lst ((S.erase (s.1, s.2)).map spD))) t ta tb (bump oft (s.1, s.2) (-1)) (riseOff rs (s.1, s.2)) := ⟨by walk_at "dl mu", by walk_at "dl mu", by walk_at "dl mu"⟩
      have f2 : put (put (put μ' ta (.dT (enc kP (bump oft (s.1, s.2) (-1))))) tb (.dK (enc kI (riseOff rs (s.1, s.2))))) r (.lst ((S.erase (s.1, s.2)).map spD)) p = some .pot := by walk_at "dl mu"
      have f3 : Less (put (put (put μ' ta (.dT (enc kP (bump oft (s.1, s.2) (-1))))) tb (.dK (enc kI (riseOff rs (s.1, s.2))))) r (.lst ((S.erase (s.1, s.2)).map spD))) μ := by walk_at "dl less"
      refine ⟨S.erase s, ta, tb, _, _, f2, f1, put_same, by omega, fun x hx => hWS x (hT.mem_iff.mp (List.mem_of_mem_drop (hP2.mem_iff.mp hx))), hc2, hR2, by omega, ?_⟩
      walk_at "dl rd"
      refine rd_brF rfl ?_
      exact wk.same ⟨_, _, S.erase s, ⟨_, _, rfl⟩, f1, hP2, hc2, hR2, put_same, f2, f3⟩
    · rintro ρ μ' ⟨oft, rs, S, ⟨y6, y7, rfl⟩, L, hP, hc, hR, hrl, hpot, hls⟩
      rw [List.length_map, List.drop_length] at hP
      have hSn : S = [] := List.Perm.eq_nil hP
      subst hSn
      have g1 := L.ob
      walk_at "dl rd"
      refine ⟨t, _, rfl, g1, ?_⟩
      refine ⟨ta, tb, oft, rs, [], L, hc, by simp, _, rfl, by simp, by simp, ?_⟩
      walk_at "dl kb"
      have g2 := L.of
      have g3 := L.ri
      intro u hu
      have hu0 : μ u = none := by
        rcases hls u with z | z
        · exact z
        · rw [z]; exact hu
      have ntu : t ≠ u := ne_no g1 hu
      refine ⟨put_same, fun ua ub hua hub huab hL2 => ⟨rfl, ?_⟩⟩
      rw [put_put] at hL2 ⊢
      have ⟨nau, hua0⟩ := no_put hua
      have ⟨nbu, hub0⟩ := no_put hub
      have back : ∀ x, μ' x = none → μ x = none := fun x h => by
        rcases hls x with z | z
        · exact z
        · rw [z]; exact h
      have ls : Less (put (put (put μ' u (.ins C_Levels [("often", .at ua), ("rises", .at ub)])) ua (.dT [])) ub (.dK [])) μ := ((hls.put hu0).put (back _ hua0)).put (back _ hub0)
      have L3 : Lv C_Levels (put (put (put μ' u (.ins C_Levels [("often", .at ua), ("rises", .at ub)])) ua (.dT [])) ub (.dK [])) t ta tb oft rs := ⟨put_at (put_at (put_at g1 ntu) (ne_no g1 hua0)) (ne_no g1 hub0), put_at (put_at (put_at g2 (ne_no g2 hu)) (ne_no g2 hua0)) (ne_no g2 hub0), put_at (put_at (put_at g3 (ne_no g3 hu)) (ne_no g3 hua0)) (ne_no g3 hub0)⟩
      generalize put (put (put μ' u (.ins C_Levels [("often", .at ua), ("rises", .at ub)])) ua (.dT [])) ub (.dK []) = ν at hL2 L3 ls ⊢
      refine rd_eqO L3.ob (.inr ⟨u, _, rfl, hL2.ob⟩) ?_
      refine ⟨ta, tb, oft, rs, [], L3, hc, .inl ⟨u, ua, ub, [], [], [], rfl, hL2, .nil, ?_⟩⟩
      refine ⟨true, by rw [decide_eq_true (List.Perm.refl _)], ?_⟩
      have g4 := L3.ob
      walk_at "dl kb"
      refine ⟨ta, tb, oft, rs, L3, Nat.le_trans hc.size (by decide), Nat.le_trans hR.size (by decide), by decide, by decide, hc.none_of (by simp), ?_⟩
      walk_at "dl kb"
      exact wk.same' ls ⟨rfl, _, _, _, _, _, _, _, rfl⟩
end Dl.M
namespace Dl.M
open PySem PySem.Spec PyProof.Rows L2 Dl
theorem all_mk {l : PySem.W.OpenLaw} {w : World} {K : Frg} {h : Heap} {mg : Str → Option Value} {fa C_Levels C_NoHand C_NoSlot C_NoSuch C_NoThing C_NotHad C_NotIn C_StoreError f0 f1 f2 f3 f4 f5 f6 f7 f8 f9 f10 f11 f12 f13 f14 f15 f16 f17 f18 f19 f20 f21 f22 f23 f24 f25 f26 f27 : Addr} (X : K.In h) (G : h.Ns mainGlobals mg) (hfa : mg "law" = some (.ref fa))
    {od0 an0 od1 an1 od2 an2 od3 an3 od4 an4 od5 an5 od6 an6 od7 an7 od8 an8 od9 an9 od10 an10 od11 an11 od12 an12 od13 an13 od14 an14 od15 an15 od16 an16 od17 an17 od18 an18 od19 an19 od20 an20 od21 an21 od22 an22 od23 an23 od24 an24 od25 an25 od26 an26 od27 an27 : Option Addr} {sl0 sl1 sl2 sl3 sl4 sl5 sl6 sl7 sl8 sl9 sl10 sl11 sl12 sl13 sl14 sl15 sl16 sl17 sl18 sl19 sl20 sl21 sl22 sl23 sl24 sl25 sl26 sl27 : Array (Option Value)} {oc0 kV0 dc0 pm0 cd0 ct0 oc1 kV1 dc1 pm1 cd1 ct1 oc2 kV2 dc2 pm2 cd2 ct2 oc3 kV3 dc3 pm3 cd3 ct3 oc4 kV4 dc4 pm4 cd4 ct4 oc5 kV5 dc5 pm5 cd5 ct5 oc6 kV6 dc6 pm6 cd6 ct6 oc7 kV7 dc7 pm7 cd7 ct7 oc8 kV8 dc8 pm8 cd8 ct8 oc9 kV9 dc9 pm9 cd9 ct9 oc10 kV10 dc10 pm10 cd10 ct10 oc11 kV11 dc11 pm11 cd11 ct11 oc12 kV12 dc12 pm12 cd12 ct12 oc13 kV13 dc13 pm13 cd13 ct13 oc14 kV14 dc14 pm14 cd14 ct14 oc15 kV15 dc15 pm15 cd15 ct15 oc16 kV16 dc16 pm16 cd16 ct16 oc17 kV17 dc17 pm17 cd17 ct17 oc18 kV18 dc18 pm18 cd18 ct18 oc19 kV19 dc19 pm19 cd19 ct19 oc20 kV20 dc20 pm20 cd20 ct20 oc21 kV21 dc21 pm21 cd21 ct21 oc22 kV22 dc22 pm22 cd22 ct22 oc23 kV23 dc23 pm23 cd23 ct23 oc24 kV24 dc24 pm24 cd24 ct24 oc25 kV25 dc25 pm25 cd25 ct25 oc26 kV26 dc26 pm26 cd26 ct26 oc27 kV27 dc27 pm27 cd27 ct27 : Value}
    (aC_NoHand : PySem.W.nsIn K mainGlobals "NoHand" = some (some (.ref C_NoHand)))
    (tC_NoHand : PySem.W.typeIn K (.ref C_NoHand) = some (.type "type"))
    (ix_NoHand : PySem.W.isClsIn K C_NoHand = true)
    (aC_NoSlot : PySem.W.nsIn K mainGlobals "NoSlot" = some (some (.ref C_NoSlot)))
    (tC_NoSlot : PySem.W.typeIn K (.ref C_NoSlot) = some (.type "type"))
    (ix_NoSlot : PySem.W.isClsIn K C_NoSlot = true)
    (aC_NoSuch : PySem.W.nsIn K mainGlobals "NoSuch" = some (some (.ref C_NoSuch)))
    (tC_NoSuch : PySem.W.typeIn K (.ref C_NoSuch) = some (.type "type"))
    (ix_NoSuch : PySem.W.isClsIn K C_NoSuch = true)
    (aC_NoThing : PySem.W.nsIn K mainGlobals "NoThing" = some (some (.ref C_NoThing)))
    (tC_NoThing : PySem.W.typeIn K (.ref C_NoThing) = some (.type "type"))
    (ix_NoThing : PySem.W.isClsIn K C_NoThing = true)
    (aC_NotHad : PySem.W.nsIn K mainGlobals "NotHad" = some (some (.ref C_NotHad)))
    (tC_NotHad : PySem.W.typeIn K (.ref C_NotHad) = some (.type "type"))
    (ix_NotHad : PySem.W.isClsIn K C_NotHad = true)
    (aC_NotIn : PySem.W.nsIn K mainGlobals "NotIn" = some (some (.ref C_NotIn)))
    {nm_NotIn qn_NotIn : Str} {N_NotIn : Addr} {bs_NotIn sub_NotIn : List Value} {sn_NotIn : List Str} {ab_NotIn : Bool} {col_NotIn : Option Bool} {dd_NotIn : Option Addr} {m0_NotIn m1_NotIn m2_NotIn m3_NotIn m5_NotIn : Option Value}
    (xL_NotIn : K.lookup C_NotIn = some (excClassObj nm_NotIn qn_NotIn C_NotIn N_NotIn bs_NotIn [.type "LookupError", .type "Exception", .type "BaseException", .type "object"] true sn_NotIn sub_NotIn ab_NotIn col_NotIn dd_NotIn m0_NotIn m1_NotIn m2_NotIn m3_NotIn m5_NotIn "LookupError.__new__"))
    (sa_NotIn : PySem.W.findIn K (.ref C_NotIn) "__setattr__" = some (some (.builtin "object.__setattr__")))
    (kC_NotIn : PySem.W.keepIn K (.ref C_NotIn) = true)
    (eC_NotIn : PySem.W.subIn K (.ref C_NotIn) (.type "BaseException") = some true)
    (tC_NotIn : PySem.W.typeIn K (.ref C_NotIn) = some (.type "type"))
    (ga_NotIn : PySem.W.findIn K (.ref C_NotIn) "__getattribute__" = some (some (.builtin "BaseException.__getattribute__")))
    (gt_NotIn : PySem.W.findIn K (.ref C_NotIn) "__getattr__" = some none)
    (hd_NotIn : PySem.W.hasDictIn K C_NotIn = true)
    (ix_NotIn : PySem.W.isClsIn K C_NotIn = true)
    (ci1_NotIn : PySem.W.findIn K (.ref C_NotIn) "__class__" = some (some (.builtin "object.__class__")))
    (ci2_NotIn : PySem.W.specialIn K (.builtin "object.__class__") "__get__" = some (some (.builtin "getset_descriptor.__get__")))
    (ci3_NotIn : PySem.W.takesIn K (.builtin "object.__class__") = some true)
    (ci4_NotIn : PySem.W.mroIn K C_NotIn (.type "object") = some true)
    (ss_NotIn : PySem.W.subIn K (.ref C_NotIn) (.ref C_NotIn) = some true)
    (aC_StoreError : PySem.W.nsIn K mainGlobals "StoreError" = some (some (.ref C_StoreError)))
    (tC_StoreError : PySem.W.typeIn K (.ref C_StoreError) = some (.type "type"))
    (ix_StoreError : PySem.W.isClsIn K C_StoreError = true)
    (h_ib_NotIn_LookupError : PySem.W.subIn K (.ref C_NotIn) (.type "LookupError") = some true)
    (h_ik_NotIn_NoHand : PySem.W.subIn K (.ref C_NotIn) (.ref C_NoHand) = some false)
    (h_ik_NotIn_NoSlot : PySem.W.subIn K (.ref C_NotIn) (.ref C_NoSlot) = some false)
    (h_ik_NotIn_NoSuch : PySem.W.subIn K (.ref C_NotIn) (.ref C_NoSuch) = some false)
    (h_ik_NotIn_NoThing : PySem.W.subIn K (.ref C_NotIn) (.ref C_NoThing) = some false)
    (h_ik_NotIn_NotHad : PySem.W.subIn K (.ref C_NotIn) (.ref C_NotHad) = some false)
    (h_ik_NotIn_StoreError : PySem.W.subIn K (.ref C_NotIn) (.ref C_StoreError) = some false)
    (leI : PySem.W.findCls K (.type "LookupError") (.type "type") "__init__" = some (.val (.builtin "LookupError.__init__")))
    (aC_Levels : PySem.W.nsIn K mainGlobals "Levels" = some (some (.ref C_Levels)))
    (pg_Levels : PySem.W.plainGet K C_Levels Str.empty = true)
    (hd_Levels : PySem.W.hasDictIn K C_Levels = true)
    (po_Levels : PySem.W.plainOver K C_Levels = true)
    (sa_Levels : PySem.W.findIn K (.ref C_Levels) "__setattr__" = some (some (.builtin "object.__setattr__")))
    (mk_Levels : PySem.W.makesIn K C_Levels = true)
    (kc_Levels : PySem.W.keepIn K (.ref C_Levels) = true)
    (a0 : PySem.W.nsIn K mainGlobals "_law_at" = some (some (.ref f0)))
    (l0 : K.lookup f0 = some ⟨oc0, od0, .func (PySem.W.fnOf "_law_at" "_law_at" (defArgs s_at) (defBody s_at) (defScope s_at) .none kV0 dc0 pm0 an0 cd0 ct0), sl0⟩)
    (c0 : PySem.W.codeIn K cd0 "_law_at" = true)
    (k0 : PySem.W.keepIn K (.ref f0) = true)
    (a1 : PySem.W.nsIn K mainGlobals "_law_pot" = some (some (.ref f1)))
    (l1 : K.lookup f1 = some ⟨oc1, od1, .func (PySem.W.fnOf "_law_pot" "_law_pot" (defArgs s_pot) (defBody s_pot) (defScope s_pot) .none kV1 dc1 pm1 an1 cd1 ct1), sl1⟩)
    (c1 : PySem.W.codeIn K cd1 "_law_pot" = true)
    (k1 : PySem.W.keepIn K (.ref f1) = true)
    (a2 : PySem.W.findIn K (.ref C_Levels) "__init__" = some (some (.ref f2)))
    (i2 : PySem.W.isFn K (.ref f2) = true)
    (l2 : K.lookup f2 = some ⟨oc2, od2, .func (PySem.W.fnOf "__init__" "Levels.__init__" (defArgs s_Levels___init__) (defBody s_Levels___init__) (defScope s_Levels___init__) .none kV2 dc2 pm2 an2 cd2 ct2), sl2⟩)
    (c2 : PySem.W.codeIn K cd2 "Levels.__init__" = true)
    (k2 : PySem.W.keepIn K (.ref f2) = true)
    (a3 : PySem.W.nsIn K mainGlobals "_law_draw" = some (some (.ref f3)))
    (l3 : K.lookup f3 = some ⟨oc3, od3, .func (PySem.W.fnOf "_law_draw" "_law_draw" (defArgs s_draw) (defBody s_draw) (defScope s_draw) .none kV3 dc3 pm3 an3 cd3 ct3), sl3⟩)
    (c3 : PySem.W.codeIn K cd3 "_law_draw" = true)
    (k3 : PySem.W.keepIn K (.ref f3) = true)
    (a4 : PySem.W.nsIn K mainGlobals "_law_among" = some (some (.ref f4)))
    (l4 : K.lookup f4 = some ⟨oc4, od4, .func (PySem.W.fnOf "_law_among" "_law_among" (defArgs s_among) (defBody s_among) (defScope s_among) .none kV4 dc4 pm4 an4 cd4 ct4), sl4⟩)
    (c4 : PySem.W.codeIn K cd4 "_law_among" = true)
    (k4 : PySem.W.keepIn K (.ref f4) = true)
    (a5 : PySem.W.nsIn K mainGlobals "_law_count" = some (some (.ref f5)))
    (l5 : K.lookup f5 = some ⟨oc5, od5, .func (PySem.W.fnOf "_law_count" "_law_count" (defArgs s_count) (defBody s_count) (defScope s_count) .none kV5 dc5 pm5 an5 cd5 ct5), sl5⟩)
    (c5 : PySem.W.codeIn K cd5 "_law_count" = true)
    (k5 : PySem.W.keepIn K (.ref f5) = true)
    (a6 : PySem.W.nsIn K mainGlobals "_law_span" = some (some (.ref f6)))
    (l6 : K.lookup f6 = some ⟨oc6, od6, .func (PySem.W.fnOf "_law_span" "_law_span" (defArgs s_span) (defBody s_span) (defScope s_span) .none kV6 dc6 pm6 an6 cd6 ct6), sl6⟩)
    (c6 : PySem.W.codeIn K cd6 "_law_span" = true)
    (k6 : PySem.W.keepIn K (.ref f6) = true)
    (a7 : PySem.W.nsIn K mainGlobals "_law_spans" = some (some (.ref f7)))
    (l7 : K.lookup f7 = some ⟨oc7, od7, .func (PySem.W.fnOf "_law_spans" "_law_spans" (defArgs s_spans) (defBody s_spans) (defScope s_spans) .none kV7 dc7 pm7 an7 cd7 ct7), sl7⟩)
    (c7 : PySem.W.codeIn K cd7 "_law_spans" = true)
    (k7 : PySem.W.keepIn K (.ref f7) = true)
    (a8 : PySem.W.nsIn K mainGlobals "is_whole" = some (some (.ref f8)))
    (l8 : K.lookup f8 = some ⟨oc8, od8, .func (PySem.W.fnOf "is_whole" "is_whole" (defArgs s_is_whole) (defBody s_is_whole) (defScope s_is_whole) .none kV8 dc8 pm8 an8 cd8 ct8), sl8⟩)
    (c8 : PySem.W.codeIn K cd8 "is_whole" = true)
    (k8 : PySem.W.keepIn K (.ref f8) = true)
    (a9 : PySem.W.nsIn K mainGlobals "is_count" = some (some (.ref f9)))
    (l9 : K.lookup f9 = some ⟨oc9, od9, .func (PySem.W.fnOf "is_count" "is_count" (defArgs s_is_count) (defBody s_is_count) (defScope s_is_count) .none kV9 dc9 pm9 an9 cd9 ct9), sl9⟩)
    (c9 : PySem.W.codeIn K cd9 "is_count" = true)
    (k9 : PySem.W.keepIn K (.ref f9) = true)
    (a10 : PySem.W.nsIn K mainGlobals "want_count" = some (some (.ref f10)))
    (l10 : K.lookup f10 = some ⟨oc10, od10, .func (PySem.W.fnOf "want_count" "want_count" (defArgs s_want_count) (defBody s_want_count) (defScope s_want_count) .none kV10 dc10 pm10 an10 cd10 ct10), sl10⟩)
    (c10 : PySem.W.codeIn K cd10 "want_count" = true)
    (k10 : PySem.W.keepIn K (.ref f10) = true)
    (a11 : PySem.W.findIn K (.ref C_Levels) "add_rise" = some (some (.ref f11)))
    (i11 : PySem.W.isFn K (.ref f11) = true)
    (l11 : K.lookup f11 = some ⟨oc11, od11, .func (PySem.W.fnOf "add_rise" "Levels.add_rise" (defArgs s_Levels_add_rise) (defBody s_Levels_add_rise) (defScope s_Levels_add_rise) .none kV11 dc11 pm11 an11 cd11 ct11), sl11⟩)
    (c11 : PySem.W.codeIn K cd11 "Levels.add_rise" = true)
    (k11 : PySem.W.keepIn K (.ref f11) = true)
    (a12 : PySem.W.findIn K (.ref C_Levels) "add_span" = some (some (.ref f12)))
    (i12 : PySem.W.isFn K (.ref f12) = true)
    (l12 : K.lookup f12 = some ⟨oc12, od12, .func (PySem.W.fnOf "add_span" "Levels.add_span" (defArgs s_Levels_add_span) (defBody s_Levels_add_span) (defScope s_Levels_add_span) .none kV12 dc12 pm12 an12 cd12 ct12), sl12⟩)
    (c12 : PySem.W.codeIn K cd12 "Levels.add_span" = true)
    (k12 : PySem.W.keepIn K (.ref f12) = true)
    (a13 : PySem.W.findIn K (.ref C_Levels) "put_span" = some (some (.ref f13)))
    (i13 : PySem.W.isFn K (.ref f13) = true)
    (l13 : K.lookup f13 = some ⟨oc13, od13, .func (PySem.W.fnOf "put_span" "Levels.put_span" (defArgs s_Levels_put_span) (defBody s_Levels_put_span) (defScope s_Levels_put_span) .none kV13 dc13 pm13 an13 cd13 ct13), sl13⟩)
    (c13 : PySem.W.codeIn K cd13 "Levels.put_span" = true)
    (k13 : PySem.W.keepIn K (.ref f13) = true)
    (a14 : PySem.W.findIn K (.ref C_Levels) "spans" = some (some (.ref f14)))
    (i14 : PySem.W.isFn K (.ref f14) = true)
    (l14 : K.lookup f14 = some ⟨oc14, od14, .func (PySem.W.fnOf "spans" "Levels.spans" (defArgs s_Levels_spans) (defBody s_Levels_spans) (defScope s_Levels_spans) .none kV14 dc14 pm14 an14 cd14 ct14), sl14⟩)
    (c14 : PySem.W.codeIn K cd14 "Levels.spans" = true)
    (k14 : PySem.W.keepIn K (.ref f14) = true)
    (a15 : PySem.W.findIn K (.ref C_Levels) "__len__" = some (some (.ref f15)))
    (i15 : PySem.W.isFn K (.ref f15) = true)
    (l15 : K.lookup f15 = some ⟨oc15, od15, .func (PySem.W.fnOf "__len__" "Levels.__len__" (defArgs s_Levels___len__) (defBody s_Levels___len__) (defScope s_Levels___len__) .none kV15 dc15 pm15 an15 cd15 ct15), sl15⟩)
    (c15 : PySem.W.codeIn K cd15 "Levels.__len__" = true)
    (k15 : PySem.W.keepIn K (.ref f15) = true)
    (a16 : PySem.W.findIn K (.ref C_Levels) "crossing" = some (some (.ref f16)))
    (i16 : PySem.W.isFn K (.ref f16) = true)
    (l16 : K.lookup f16 = some ⟨oc16, od16, .func (PySem.W.fnOf "crossing" "Levels.crossing" (defArgs s_Levels_crossing) (defBody s_Levels_crossing) (defScope s_Levels_crossing) .none kV16 dc16 pm16 an16 cd16 ct16), sl16⟩)
    (c16 : PySem.W.codeIn K cd16 "Levels.crossing" = true)
    (k16 : PySem.W.keepIn K (.ref f16) = true)
    (a17 : PySem.W.nsIn K mainGlobals "_law_crossing" = some (some (.ref f17)))
    (l17 : K.lookup f17 = some ⟨oc17, od17, .func (PySem.W.fnOf "_law_crossing" "_law_crossing" (defArgs s_crossing) (defBody s_crossing) (defScope s_crossing) .none kV17 dc17 pm17 an17 cd17 ct17), sl17⟩)
    (c17 : PySem.W.codeIn K cd17 "_law_crossing" = true)
    (k17 : PySem.W.keepIn K (.ref f17) = true)
    (a18 : PySem.W.findIn K (.ref C_Levels) "least_bare" = some (some (.ref f18)))
    (i18 : PySem.W.isFn K (.ref f18) = true)
    (l18 : K.lookup f18 = some ⟨oc18, od18, .func (PySem.W.fnOf "least_bare" "Levels.least_bare" (defArgs s_Levels_least_bare) (defBody s_Levels_least_bare) (defScope s_Levels_least_bare) .none kV18 dc18 pm18 an18 cd18 ct18), sl18⟩)
    (c18 : PySem.W.codeIn K cd18 "Levels.least_bare" = true)
    (k18 : PySem.W.keepIn K (.ref f18) = true)
    (a19 : PySem.W.findIn K (.ref C_Levels) "bare_below" = some (some (.ref f19)))
    (i19 : PySem.W.isFn K (.ref f19) = true)
    (l19 : K.lookup f19 = some ⟨oc19, od19, .func (PySem.W.fnOf "bare_below" "Levels.bare_below" (defArgs s_Levels_bare_below) (defBody s_Levels_bare_below) (defScope s_Levels_bare_below) .none kV19 dc19 pm19 an19 cd19 ct19), sl19⟩)
    (c19 : PySem.W.codeIn K cd19 "Levels.bare_below" = true)
    (k19 : PySem.W.keepIn K (.ref f19) = true)
    (a20 : PySem.W.nsIn K mainGlobals "_law_bare" = some (some (.ref f20)))
    (l20 : K.lookup f20 = some ⟨oc20, od20, .func (PySem.W.fnOf "_law_bare" "_law_bare" (defArgs s_bare) (defBody s_bare) (defScope s_bare) .none kV20 dc20 pm20 an20 cd20 ct20), sl20⟩)
    (c20 : PySem.W.codeIn K cd20 "_law_bare" = true)
    (k20 : PySem.W.keepIn K (.ref f20) = true)
    (a21 : PySem.W.findIn K (.ref C_NotIn) "__init__" = some (some (.ref f21)))
    (i21 : PySem.W.typeIn K (.ref f21) = some (.type "function"))
    (l21 : K.lookup f21 = some ⟨oc21, od21, .func (PySem.W.fnOf "__init__" "NotIn.__init__" (defArgs s_NotIn___init__) (defBody s_NotIn___init__) (defScope s_NotIn___init__) .none kV21 dc21 pm21 an21 cd21 ct21), sl21⟩)
    (c21 : PySem.W.codeIn K cd21 "NotIn.__init__" = true)
    (k21 : PySem.W.keepIn K (.ref f21) = true)
    (a22 : PySem.W.findIn K (.ref C_Levels) "take_span" = some (some (.ref f22)))
    (i22 : PySem.W.isFn K (.ref f22) = true)
    (l22 : K.lookup f22 = some ⟨oc22, od22, .func (PySem.W.fnOf "take_span" "Levels.take_span" (defArgs s_Levels_take_span) (defBody s_Levels_take_span) (defScope s_Levels_take_span) .none kV22 dc22 pm22 an22 cd22 ct22), sl22⟩)
    (c22 : PySem.W.codeIn K cd22 "Levels.take_span" = true)
    (k22 : PySem.W.keepIn K (.ref f22) = true)
    (a23 : PySem.W.nsIn K mainGlobals "_law_not_in" = some (some (.ref f23)))
    (l23 : K.lookup f23 = some ⟨oc23, od23, .func (PySem.W.fnOf "_law_not_in" "_law_not_in" (defArgs s_not_in) (defBody s_not_in) (defScope s_not_in) .none kV23 dc23 pm23 an23 cd23 ct23), sl23⟩)
    (c23 : PySem.W.codeIn K cd23 "_law_not_in" = true)
    (k23 : PySem.W.keepIn K (.ref f23) = true)
    (a24 : PySem.W.nsIn K mainGlobals "_law_right" = some (some (.ref f24)))
    (l24 : K.lookup f24 = some ⟨oc24, od24, .func (PySem.W.fnOf "_law_right" "_law_right" (defArgs s_right) (defBody s_right) (defScope s_right) .none kV24 dc24 pm24 an24 cd24 ct24), sl24⟩)
    (c24 : PySem.W.codeIn K cd24 "_law_right" = true)
    (k24 : PySem.W.keepIn K (.ref f24) = true)
    (a25 : PySem.W.nsIn K mainGlobals "_law_mixed" = some (some (.ref f25)))
    (l25 : K.lookup f25 = some ⟨oc25, od25, .func (PySem.W.fnOf "_law_mixed" "_law_mixed" (defArgs s_mixed) (defBody s_mixed) (defScope s_mixed) .none kV25 dc25 pm25 an25 cd25 ct25), sl25⟩)
    (c25 : PySem.W.codeIn K cd25 "_law_mixed" = true)
    (k25 : PySem.W.keepIn K (.ref f25) = true)
    (a26 : PySem.W.findIn K (.ref C_Levels) "__eq__" = some (some (.ref f26)))
    (i26 : PySem.W.isFn K (.ref f26) = true)
    (l26 : K.lookup f26 = some ⟨oc26, od26, .func (PySem.W.fnOf "__eq__" "Levels.__eq__" (defArgs s_Levels___eq__) (defBody s_Levels___eq__) (defScope s_Levels___eq__) .none kV26 dc26 pm26 an26 cd26 ct26), sl26⟩)
    (c26 : PySem.W.codeIn K cd26 "Levels.__eq__" = true)
    (k26 : PySem.W.keepIn K (.ref f26) = true)
    (a27 : PySem.W.nsIn K mainGlobals "law" = some (some (.ref f27)))
    (l27 : K.lookup f27 = some ⟨oc27, od27, .func (PySem.W.fnOf "law" "law" (defArgs s_law) (defBody s_law) (defScope s_law) .none kV27 dc27 pm27 an27 cd27 ct27), sl27⟩)
    (c27 : PySem.W.codeIn K cd27 "law" = true)
    (k27 : PySem.W.keepIn K (.ref f27) = true)
    (z_na_Levels_often : PySem.W.findIn K (.ref C_Levels) "often" = some none)
    (z_na_Levels_rises : PySem.W.findIn K (.ref C_Levels) "rises" = some none)
    (z_na_NotIn_high : PySem.W.findIn K (.ref C_NotIn) "high" = some none)
    (z_na_NotIn_low : PySem.W.findIn K (.ref C_NotIn) "low" = some none)
    (z_n_LookupError : PySem.W.nsIn K mainGlobals "LookupError" = some none)
    (z_n_abs : PySem.W.nsIn K mainGlobals "abs" = some none)
    (z_n_bool : PySem.W.nsIn K mainGlobals "bool" = some none)
    (z_n_divmod : PySem.W.nsIn K mainGlobals "divmod" = some none)
    (z_n_int : PySem.W.nsIn K mainGlobals "int" = some none)
    (z_n_isinstance : PySem.W.nsIn K mainGlobals "isinstance" = some none)
    (z_n_len : PySem.W.nsIn K mainGlobals "len" = some none)
    (z_n_list : PySem.W.nsIn K mainGlobals "list" = some none)
    (z_n_max : PySem.W.nsIn K mainGlobals "max" = some none)
    (z_n_min : PySem.W.nsIn K mainGlobals "min" = some none)
    (z_n_range : PySem.W.nsIn K mainGlobals "range" = some none)
    (z_n_repr : PySem.W.nsIn K mainGlobals "repr" = some none)
    (z_n_sorted : PySem.W.nsIn K mainGlobals "sorted" = some none)
    (z_n_sum : PySem.W.nsIn K mainGlobals "sum" = some none)
    (ap_Levels_NoneType : PySem.W.subIn K (.type "NoneType") (.ref C_Levels) = some false)
    (ap_Levels_bool : PySem.W.subIn K (.type "bool") (.ref C_Levels) = some false)
    (ap_Levels_int : PySem.W.subIn K (.type "int") (.ref C_Levels) = some false)
    (ap_Levels_str : PySem.W.subIn K (.type "str") (.ref C_Levels) = some false)
    (ap_Levels_list : PySem.W.subIn K (.type "list") (.ref C_Levels) = some false)
    (ap_Levels_tuple : PySem.W.subIn K (.type "tuple") (.ref C_Levels) = some false)
    (ap_Levels_dict : PySem.W.subIn K (.type "dict") (.ref C_Levels) = some false)
    (ci1_Levels : PySem.W.findIn K (.ref C_Levels) "__class__" = some (some (.builtin "object.__class__")))
    (ci2_Levels : PySem.W.specialIn K (.builtin "object.__class__") "__get__" = some (some (.builtin "getset_descriptor.__get__")))
    (ci3_Levels : PySem.W.takesIn K (.builtin "object.__class__") = some true)
    (ci4_Levels : PySem.W.mroIn K C_Levels (.type "object") = some true)
    (ci5_Levels : PySem.W.isClsIn K C_Levels = true)
    (ci6_Levels : PySem.W.typeIn K (.ref C_Levels) = some (.type "type"))
    : ∃ fd : FuncData, (∀ (s : Shared) (v : Value), BindsTo s fd ⟨[v], []⟩ [("_law_script", v)]) ∧ ∀ base : Heap, K.In base → base.Ns mainGlobals mg → FnG l.prog w K mg base 7 fa fd ["_law_script"] sp_law := by
  have e := hfa.symm.trans (PySem.W.mg_of X G a27)
  cases e
  have T : Txt K mg C_Levels C_NoHand C_NoSlot C_NoSuch C_NoThing C_NotHad C_NotIn C_StoreError := ⟨⟨pg_Levels, hd_Levels, po_Levels, sa_Levels⟩, z_na_Levels_often, z_na_Levels_rises, z_na_NotIn_high, z_na_NotIn_low, PySem.W.mg_of X G aC_Levels, PySem.W.mg_of X G aC_NoHand, PySem.W.mg_of X G aC_NoSlot, PySem.W.mg_of X G aC_NoSuch, PySem.W.mg_of X G aC_NoThing, PySem.W.mg_of X G aC_NotHad, PySem.W.mg_of X G aC_NotIn, PySem.W.mg_of X G aC_StoreError, PySem.W.mg_none_of X G z_n_LookupError, PySem.W.mg_none_of X G z_n_abs, PySem.W.mg_none_of X G z_n_bool, PySem.W.mg_none_of X G z_n_divmod, PySem.W.mg_none_of X G z_n_int, PySem.W.mg_none_of X G z_n_isinstance, PySem.W.mg_none_of X G z_n_len, PySem.W.mg_none_of X G z_n_list, PySem.W.mg_none_of X G z_n_max, PySem.W.mg_none_of X G z_n_min, PySem.W.mg_none_of X G z_n_range, PySem.W.mg_none_of X G z_n_repr, PySem.W.mg_none_of X G z_n_sorted, PySem.W.mg_none_of X G z_n_sum, ⟨⟨_, _, _, _, _, _, _, _, _, _, _, _, _, _, _, xL_NotIn, by decide +kernel⟩, sa_NotIn, eC_NotIn, tC_NotIn, kC_NotIn⟩, kit_ty h_ib_NotIn_LookupError (by decide +kernel), ⟨ix_NotIn, ga_NotIn, gt_NotIn, eC_NotIn, ci1_NotIn, ci2_NotIn, ci3_NotIn, ci4_NotIn⟩, kit_no ss_NotIn h_ik_NotIn_NoHand ix_NoHand tC_NoHand, kit_no ss_NotIn h_ik_NotIn_NoSlot ix_NoSlot tC_NoSlot, kit_no ss_NotIn h_ik_NotIn_NoSuch ix_NoSuch tC_NoSuch, kit_no ss_NotIn h_ik_NotIn_NoThing ix_NoThing tC_NoThing, kit_no ss_NotIn h_ik_NotIn_NotHad ix_NotHad tC_NotHad, kit_no ss_NotIn h_ik_NotIn_StoreError ix_StoreError tC_StoreError, leI, ⟨ga_NotIn, gt_NotIn, eC_NotIn, hd_NotIn⟩, PySem.W.exm_ref eC_NotIn hd_NotIn tC_NotIn ss_NotIn, ⟨fun n h => by simp only [dataTys, List.mem_cons, List.not_mem_nil, or_false] at h; rcases h with rfl | rfl | rfl | rfl | rfl | rfl | rfl <;> assumption⟩, ⟨⟨pg_Levels, hd_Levels, po_Levels, sa_Levels⟩, ci1_Levels, ci2_Levels, ci3_Levels, ci4_Levels, ci5_Levels, ci6_Levels⟩⟩
  have F0 := fun_mk (st := s_at) l0 c0 k0
  have d_at : Def0 K mg "_law_at" s_at := ⟨_, _, F0, PySem.W.mg_of X G a0⟩
  have F1 := fun_mk (st := s_pot) l1 c1 k1
  have d_pot : Def0 K mg "_law_pot" s_pot := ⟨_, _, F1, PySem.W.mg_of X G a1⟩
  have F2 := fun_mk (st := s_Levels___init__) l2 c2 k2
  have d_Levels___init__ : ∃ (f : Addr) (fd : FuncData), Fun K "__init__" "Levels.__init__" s_Levels___init__ f fd ∧ Mk K C_Levels f ∧ mg "Levels" = some (.ref C_Levels) := ⟨_, _, F2, ⟨mk_Levels, a2, i2, kc_Levels⟩, PySem.W.mg_of X G aC_Levels⟩
  have F3 := fun_mk (st := s_draw) l3 c3 k3
  have d_draw : Def0 K mg "_law_draw" s_draw := ⟨_, _, F3, PySem.W.mg_of X G a3⟩
  have F4 := fun_mk (st := s_among) l4 c4 k4
  have d_among : Def0 K mg "_law_among" s_among := ⟨_, _, F4, PySem.W.mg_of X G a4⟩
  have F5 := fun_mk (st := s_count) l5 c5 k5
  have d_count : Def0 K mg "_law_count" s_count := ⟨_, _, F5, PySem.W.mg_of X G a5⟩
  have F6 := fun_mk (st := s_span) l6 c6 k6
  have d_span : Def0 K mg "_law_span" s_span := ⟨_, _, F6, PySem.W.mg_of X G a6⟩
  have F7 := fun_mk (st := s_spans) l7 c7 k7
  have d_spans : Def0 K mg "_law_spans" s_spans := ⟨_, _, F7, PySem.W.mg_of X G a7⟩
  have F8 := fun_mk (st := s_is_whole) l8 c8 k8
  have d_is_whole : Def0 K mg "is_whole" s_is_whole := ⟨_, _, F8, PySem.W.mg_of X G a8⟩
  have F9 := fun_mk (st := s_is_count) l9 c9 k9
  have d_is_count : Def0 K mg "is_count" s_is_count := ⟨_, _, F9, PySem.W.mg_of X G a9⟩
  have F10 := fun_mk (st := s_want_count) l10 c10 k10
  have d_want_count : Def0 K mg "want_count" s_want_count := ⟨_, _, F10, PySem.W.mg_of X G a10⟩
  have F11 := fun_mk (st := s_Levels_add_rise) l11 c11 k11
  have d_Levels_add_rise : Met0 K C_Levels "add_rise" "Levels.add_rise" s_Levels_add_rise := ⟨_, _, F11, ⟨a11, i11, k11⟩⟩
  have F12 := fun_mk (st := s_Levels_add_span) l12 c12 k12
  have d_Levels_add_span : Met0 K C_Levels "add_span" "Levels.add_span" s_Levels_add_span := ⟨_, _, F12, ⟨a12, i12, k12⟩⟩
  have F13 := fun_mk (st := s_Levels_put_span) l13 c13 k13
  have d_Levels_put_span : Met0 K C_Levels "put_span" "Levels.put_span" s_Levels_put_span := ⟨_, _, F13, ⟨a13, i13, k13⟩⟩
  have F14 := fun_mk (st := s_Levels_spans) l14 c14 k14
  have d_Levels_spans : Met0 K C_Levels "spans" "Levels.spans" s_Levels_spans := ⟨_, _, F14, ⟨a14, i14, k14⟩⟩
  have F15 := fun_mk (st := s_Levels___len__) l15 c15 k15
  have d_Levels___len__ : Met0 K C_Levels "__len__" "Levels.__len__" s_Levels___len__ := ⟨_, _, F15, ⟨a15, i15, k15⟩⟩
  have F16 := fun_mk (st := s_Levels_crossing) l16 c16 k16
  have d_Levels_crossing : Met0 K C_Levels "crossing" "Levels.crossing" s_Levels_crossing := ⟨_, _, F16, ⟨a16, i16, k16⟩⟩
  have F17 := fun_mk (st := s_crossing) l17 c17 k17
  have d_crossing : Def0 K mg "_law_crossing" s_crossing := ⟨_, _, F17, PySem.W.mg_of X G a17⟩
  have F18 := fun_mk (st := s_Levels_least_bare) l18 c18 k18
  have d_Levels_least_bare : Met0 K C_Levels "least_bare" "Levels.least_bare" s_Levels_least_bare := ⟨_, _, F18, ⟨a18, i18, k18⟩⟩
  have F19 := fun_mk (st := s_Levels_bare_below) l19 c19 k19
  have d_Levels_bare_below : Met0 K C_Levels "bare_below" "Levels.bare_below" s_Levels_bare_below := ⟨_, _, F19, ⟨a19, i19, k19⟩⟩
  have F20 := fun_mk (st := s_bare) l20 c20 k20
  have d_bare : Def0 K mg "_law_bare" s_bare := ⟨_, _, F20, PySem.W.mg_of X G a20⟩
  have F21 := fun_mk (st := s_NotIn___init__) l21 c21 k21
  have d_NotIn___init__ : ∃ (f : Addr) (fd : FuncData), Fun K "__init__" "NotIn.__init__" s_NotIn___init__ f fd ∧ PySem.W.findIn K (.ref C_NotIn) "__init__" = some (some (.ref f)) ∧ PySem.W.typeIn K (.ref f) = some (.type "function") := ⟨_, _, F21, a21, i21⟩
  have F22 := fun_mk (st := s_Levels_take_span) l22 c22 k22
  have d_Levels_take_span : Met0 K C_Levels "take_span" "Levels.take_span" s_Levels_take_span := ⟨_, _, F22, ⟨a22, i22, k22⟩⟩
  have F23 := fun_mk (st := s_not_in) l23 c23 k23
  have d_not_in : Def0 K mg "_law_not_in" s_not_in := ⟨_, _, F23, PySem.W.mg_of X G a23⟩
  have F24 := fun_mk (st := s_right) l24 c24 k24
  have d_right : Def0 K mg "_law_right" s_right := ⟨_, _, F24, PySem.W.mg_of X G a24⟩
  have F25 := fun_mk (st := s_mixed) l25 c25 k25
  have d_mixed : Def0 K mg "_law_mixed" s_mixed := ⟨_, _, F25, PySem.W.mg_of X G a25⟩
  have F26 := fun_mk (st := s_Levels___eq__) l26 c26 k26
  have d_Levels___eq__ : Met0 K C_Levels "__eq__" "Levels.__eq__" s_Levels___eq__ := ⟨_, _, F26, ⟨a26, i26, k26⟩⟩
  have F27 := fun_mk (st := s_law) l27 c27 k27
  have d_law : Def0 K mg "law" s_law := ⟨_, _, F27, PySem.W.mg_of X G a27⟩
  refine ⟨PySem.W.fnOf "law" "law" (defArgs s_law) (defBody s_law) (defScope s_law) .none kV27 dc27 pm27 an27 cd27 ct27, fun s v => .of_eq rfl, fun base _ _ => ?_⟩
  have c_at : CalD l.prog w K mg base 1 "_law_at" s_at ["_law_script", "_law_k"] sp_at := g_at T d_at 
  have c_pot : CalD l.prog w K mg base 2 "_law_pot" s_pot ["_law_script", "_law_k"] sp_pot := g_pot T d_pot c_at
  have c_Levels___init__ : MakD l.prog w K mg base 1 "Levels" C_Levels "Levels.__init__" s_Levels___init__ ["self"] (sp_Levels___init__ C_Levels) := g_Levels___init__ T d_Levels___init__ 
  have c_draw : CalD l.prog w K mg base 1 "_law_draw" s_draw ["_law_pot_here", "_law_many"] sp_draw := g_draw T d_draw 
  have c_among : CalD l.prog w K mg base 2 "_law_among" s_among ["_law_pot_here", "_law_some"] sp_among := g_among T d_among c_draw
  have c_count : CalD l.prog w K mg base 2 "_law_count" s_count ["_law_pot_here"] sp_count := g_count T d_count c_draw
  have c_span : CalD l.prog w K mg base 3 "_law_span" s_span ["_law_pot_here", "_law_taken"] sp_span := g_span T d_span c_draw c_among c_count
  have c_spans : CalD l.prog w K mg base 4 "_law_spans" s_spans ["_law_pot_here", "_law_many"] sp_spans := g_spans T d_spans c_span
  have c_is_whole : CalD l.prog w K mg base 1 "is_whole" s_is_whole ["thing"] sp_is_whole := g_is_whole T d_is_whole 
  have c_is_count : CalD l.prog w K mg base 2 "is_count" s_is_count ["thing"] sp_is_count := g_is_count T d_is_count c_is_whole
  have c_want_count : CalD l.prog w K mg base 3 "want_count" s_want_count ["level"] sp_want_count := g_want_count T d_want_count c_is_count
  have c_Levels_add_rise : MetD l.prog w K mg base 1 C_Levels "add_rise" "Levels.add_rise" s_Levels_add_rise ["self", "level", "more"] (sp_Levels_add_rise C_Levels) := g_Levels_add_rise T d_Levels_add_rise 
  have c_Levels_add_span : MetD l.prog w K mg base 2 C_Levels "add_span" "Levels.add_span" s_Levels_add_span ["self", "low", "high", "more"] (sp_Levels_add_span C_Levels) := g_Levels_add_span T d_Levels_add_span c_Levels_add_rise
  have c_Levels_put_span : MetD l.prog w K mg base 4 C_Levels "put_span" "Levels.put_span" s_Levels_put_span ["self", "low", "high"] (sp_Levels_put_span C_Levels) := g_Levels_put_span T d_Levels_put_span c_want_count c_Levels_add_span
  have c_Levels_spans : MetD l.prog w K mg base 1 C_Levels "spans" "Levels.spans" s_Levels_spans ["self"] (sp_Levels_spans C_Levels) := g_Levels_spans T d_Levels_spans 
  have c_Levels___len__ : MetD l.prog w K mg base 2 C_Levels "__len__" "Levels.__len__" s_Levels___len__ ["self"] (sp_Levels___len__ C_Levels) := g_Levels___len__ T d_Levels___len__ c_Levels_spans
  have c_Levels_crossing : MetD l.prog w K mg base 4 C_Levels "crossing" "Levels.crossing" s_Levels_crossing ["self", "level"] (sp_Levels_crossing C_Levels) := g_Levels_crossing T d_Levels_crossing c_want_count
  have c_crossing : CalD l.prog w K mg base 1 "_law_crossing" s_crossing ["_law_spans_here", "_law_level"] sp_crossing := g_crossing T d_crossing 
  have c_Levels_least_bare : MetD l.prog w K mg base 1 C_Levels "least_bare" "Levels.least_bare" s_Levels_least_bare ["self"] (sp_Levels_least_bare C_Levels) := g_Levels_least_bare T d_Levels_least_bare 
  have c_Levels_bare_below : MetD l.prog w K mg base 4 C_Levels "bare_below" "Levels.bare_below" s_Levels_bare_below ["self", "end"] (sp_Levels_bare_below C_Levels) := g_Levels_bare_below T d_Levels_bare_below c_want_count c_Levels_least_bare
  have c_bare : CalD l.prog w K mg base 1 "_law_bare" s_bare ["_law_spans_here", "_law_end"] sp_bare := g_bare T d_bare 
  have c_NotIn___init__ : MkL l.prog w K mg base 2 "NotIn" C_NotIn ["low", "high"] := g_NotIn___init__ T d_NotIn___init__ 
  have c_Levels_take_span : MetD l.prog w K mg base 4 C_Levels "take_span" "Levels.take_span" s_Levels_take_span ["self", "low", "high"] (sp_Levels_take_span C_Levels C_NotIn) := g_Levels_take_span T d_Levels_take_span c_want_count c_NotIn___init__ c_Levels_add_span
  have c_not_in : CalD l.prog w K mg base 5 "_law_not_in" s_not_in ["_law_table", "_law_start", "_law_goal"] (sp_not_in C_Levels C_NotIn) := g_not_in T d_not_in c_Levels_take_span
  have c_right : CalD l.prog w K mg base 6 "_law_right" s_right ["_law_pot_here", "_law_table", "_law_spans_here"] (sp_right C_Levels) := g_right T d_right c_Levels_spans c_Levels___len__ c_draw c_among c_Levels_crossing c_crossing c_Levels_bare_below c_bare c_span c_not_in
  have c_mixed : CalD l.prog w K mg base 2 "_law_mixed" s_mixed ["_law_pot_here", "_law_some"] sp_mixed := g_mixed T d_mixed c_draw
  have c_Levels___eq__ : MetD l.prog w K mg base 1 C_Levels "__eq__" "Levels.__eq__" s_Levels___eq__ ["self", "other"] (sp_Levels___eq__ C_Levels) := g_Levels___eq__ T d_Levels___eq__ 
  have c_law : CalD l.prog w K mg base 7 "law" s_law ["_law_script"] sp_law := g_law T d_law c_pot c_Levels___init__ c_spans c_draw c_Levels_put_span c_right c_mixed c_Levels_take_span c_Levels___len__ c_Levels___eq__ c_not_in
  exact c_law.fn (PySem.W.mg_of X G a27) l27
end Dl.M
open PySem PySem.W PyProof.Rows
set_option maxRecDepth 100000 in
set_option maxHeartbeats 0 in
theorem PySem.Challenge.cw_deepfall_k46_spans_in_any_order_holds : PySem.Challenge.rw_deepfall_k46_spans_in_any_order.Holds := by
  w_on; o_law; k_head; (case hw => w_witness2)
  k_fill
  refine Dl.walk_G (l := PySem.Challenge.rw_deepfall_k46_spans_in_any_order) (n := 63) (k := 7) (x := "_law_script") (sp := Dl.M.sp_law) rfl (by decide) rfl ⟨rfl, by decide, by decide⟩ (fun w h Y => PySem.W.kIn_of Y) ?nl ?F (fun a ns h => Dl.M.law_end a ns h)
  case nl => intro p; rfl
  case F =>
    intro w mg fa h KX G hmg
    refine' Dl.M.all_mk KX G hmg ?aC_NoHand ?tC_NoHand ?ix_NoHand ?aC_NoSlot ?tC_NoSlot ?ix_NoSlot ?aC_NoSuch ?tC_NoSuch ?ix_NoSuch ?aC_NoThing ?tC_NoThing ?ix_NoThing ?aC_NotHad ?tC_NotHad ?ix_NotHad ?aC_NotIn ?xL_NotIn ?sa_NotIn ?kC_NotIn ?eC_NotIn ?tC_NotIn ?ga_NotIn ?gt_NotIn ?hd_NotIn ?ix_NotIn ?ci1_NotIn ?ci2_NotIn ?ci3_NotIn ?ci4_NotIn ?ss_NotIn ?aC_StoreError ?tC_StoreError ?ix_StoreError ?h_ib_NotIn_LookupError ?h_ik_NotIn_NoHand ?h_ik_NotIn_NoSlot ?h_ik_NotIn_NoSuch ?h_ik_NotIn_NoThing ?h_ik_NotIn_NotHad ?h_ik_NotIn_StoreError ?leI ?aC_Levels ?pg_Levels ?hd_Levels ?po_Levels ?sa_Levels ?mk_Levels ?kc_Levels ?a0 ?l0 ?c0 ?k0 ?a1 ?l1 ?c1 ?k1 ?a2 ?i2 ?l2 ?c2 ?k2 ?a3 ?l3 ?c3 ?k3 ?a4 ?l4 ?c4 ?k4 ?a5 ?l5 ?c5 ?k5 ?a6 ?l6 ?c6 ?k6 ?a7 ?l7 ?c7 ?k7 ?a8 ?l8 ?c8 ?k8 ?a9 ?l9 ?c9 ?k9 ?a10 ?l10 ?c10 ?k10 ?a11 ?i11 ?l11 ?c11 ?k11 ?a12 ?i12 ?l12 ?c12 ?k12 ?a13 ?i13 ?l13 ?c13 ?k13 ?a14 ?i14 ?l14 ?c14 ?k14 ?a15 ?i15 ?l15 ?c15 ?k15 ?a16 ?i16 ?l16 ?c16 ?k16 ?a17 ?l17 ?c17 ?k17 ?a18 ?i18 ?l18 ?c18 ?k18 ?a19 ?i19 ?l19 ?c19 ?k19 ?a20 ?l20 ?c20 ?k20 ?a21 ?i21 ?l21 ?c21 ?k21 ?a22 ?i22 ?l22 ?c22 ?k22 ?a23 ?l23 ?c23 ?k23 ?a24 ?l24 ?c24 ?k24 ?a25 ?l25 ?c25 ?k25 ?a26 ?i26 ?l26 ?c26 ?k26 ?a27 ?l27 ?c27 ?k27 ?z_na_Levels_often ?z_na_Levels_rises ?z_na_NotIn_high ?z_na_NotIn_low ?z_n_LookupError ?z_n_abs ?z_n_bool ?z_n_divmod ?z_n_int ?z_n_isinstance ?z_n_len ?z_n_list ?z_n_max ?z_n_min ?z_n_range ?z_n_repr ?z_n_sorted ?z_n_sum ?ap_Levels_NoneType ?ap_Levels_bool ?ap_Levels_int ?ap_Levels_str ?ap_Levels_list ?ap_Levels_tuple ?ap_Levels_dict ?ci1_Levels ?ci2_Levels ?ci3_Levels ?ci4_Levels ?ci5_Levels ?ci6_Levels
    (case aC_NoHand => k_is)
    (case tC_NoHand => k_is)
    (case ix_NoHand => k_is)
    (case aC_NoSlot => k_is)
    (case tC_NoSlot => k_is)
    (case ix_NoSlot => k_is)
    (case aC_NoSuch => k_is)
    (case tC_NoSuch => k_is)
    (case ix_NoSuch => k_is)
    (case aC_NoThing => k_is)
    (case tC_NoThing => k_is)
    (case ix_NoThing => k_is)
    (case aC_NotHad => k_is)
    (case tC_NotHad => k_is)
    (case ix_NotHad => k_is)
    (case aC_NotIn => k_is)
    (case xL_NotIn => k_is)
    (case sa_NotIn => k_is)
    (case kC_NotIn => k_is)
    (case eC_NotIn => k_is)
    (case tC_NotIn => k_is)
    (case ga_NotIn => k_is)
    (case gt_NotIn => k_is)
    (case hd_NotIn => k_is)
    (case ix_NotIn => k_is)
    (case ci1_NotIn => k_is)
    (case ci2_NotIn => k_is)
    (case ci3_NotIn => k_is)
    (case ci4_NotIn => k_is)
    (case ss_NotIn => k_is)
    (case aC_StoreError => k_is)
    (case tC_StoreError => k_is)
    (case ix_StoreError => k_is)
    (case h_ib_NotIn_LookupError => k_is)
    (case h_ik_NotIn_NoHand => k_is)
    (case h_ik_NotIn_NoSlot => k_is)
    (case h_ik_NotIn_NoSuch => k_is)
    (case h_ik_NotIn_NoThing => k_is)
    (case h_ik_NotIn_NotHad => k_is)
    (case h_ik_NotIn_StoreError => k_is)
    (case leI => k_is)
    (case aC_Levels => k_is)
    (case pg_Levels => k_is)
    (case hd_Levels => k_is)
    (case po_Levels => k_is)
    (case sa_Levels => k_is)
    (case mk_Levels => k_is)
    (case kc_Levels => k_is)
    (case a0 => k_is)
    (case l0 => k_is)
    (case c0 => k_is)
    (case k0 => k_is)
    (case a1 => k_is)
    (case l1 => k_is)
    (case c1 => k_is)
    (case k1 => k_is)
    (case a2 => k_is)
    (case i2 => k_is)
    (case l2 => k_is)
    (case c2 => k_is)
    (case k2 => k_is)
    (case a3 => k_is)
    (case l3 => k_is)
    (case c3 => k_is)
    (case k3 => k_is)
    (case a4 => k_is)
    (case l4 => k_is)
    (case c4 => k_is)
    (case k4 => k_is)
    (case a5 => k_is)
    (case l5 => k_is)
    (case c5 => k_is)
    (case k5 => k_is)
    (case a6 => k_is)
    (case l6 => k_is)
    (case c6 => k_is)
    (case k6 => k_is)
    (case a7 => k_is)
    (case l7 => k_is)
    (case c7 => k_is)
    (case k7 => k_is)
    (case a8 => k_is)
    (case l8 => k_is)
    (case c8 => k_is)
    (case k8 => k_is)
    (case a9 => k_is)
    (case l9 => k_is)
    (case c9 => k_is)
    (case k9 => k_is)
    (case a10 => k_is)
    (case l10 => k_is)
    (case c10 => k_is)
    (case k10 => k_is)
    (case a11 => k_is)
    (case i11 => k_is)
    (case l11 => k_is)
    (case c11 => k_is)
    (case k11 => k_is)
    (case a12 => k_is)
    (case i12 => k_is)
    (case l12 => k_is)
    (case c12 => k_is)
    (case k12 => k_is)
    (case a13 => k_is)
    (case i13 => k_is)
    (case l13 => k_is)
    (case c13 => k_is)
    (case k13 => k_is)
    (case a14 => k_is)
    (case i14 => k_is)
    (case l14 => k_is)
    (case c14 => k_is)
    (case k14 => k_is)
    (case a15 => k_is)
    (case i15 => k_is)
    (case l15 => k_is)
    (case c15 => k_is)
    (case k15 => k_is)
    (case a16 => k_is)
    (case i16 => k_is)
    (case l16 => k_is)
    (case c16 => k_is)
    (case k16 => k_is)
    (case a17 => k_is)
    (case l17 => k_is)
    (case c17 => k_is)
    (case k17 => k_is)
    (case a18 => k_is)
    (case i18 => k_is)
    (case l18 => k_is)
    (case c18 => k_is)
    (case k18 => k_is)
    (case a19 => k_is)
    (case i19 => k_is)
    (case l19 => k_is)
    (case c19 => k_is)
    (case k19 => k_is)
    (case a20 => k_is)
    (case l20 => k_is)
    (case c20 => k_is)
    (case k20 => k_is)
    (case a21 => k_is)
    (case i21 => k_is)
    (case l21 => k_is)
    (case c21 => k_is)
    (case k21 => k_is)
    (case a22 => k_is)
    (case i22 => k_is)
    (case l22 => k_is)
    (case c22 => k_is)
    (case k22 => k_is)
    (case a23 => k_is)
    (case l23 => k_is)
    (case c23 => k_is)
    (case k23 => k_is)
    (case a24 => k_is)
    (case l24 => k_is)
    (case c24 => k_is)
    (case k24 => k_is)
    (case a25 => k_is)
    (case l25 => k_is)
    (case c25 => k_is)
    (case k25 => k_is)
    (case a26 => k_is)
    (case i26 => k_is)
    (case l26 => k_is)
    (case c26 => k_is)
    (case k26 => k_is)
    (case a27 => k_is)
    (case l27 => k_is)
    (case c27 => k_is)
    (case k27 => k_is)
    (case z_na_Levels_often => k_is)
    (case z_na_Levels_rises => k_is)
    (case z_na_NotIn_high => k_is)
    (case z_na_NotIn_low => k_is)
    (case z_n_LookupError => k_is)
    (case z_n_abs => k_is)
    (case z_n_bool => k_is)
    (case z_n_divmod => k_is)
    (case z_n_int => k_is)
    (case z_n_isinstance => k_is)
    (case z_n_len => k_is)
    (case z_n_list => k_is)
    (case z_n_max => k_is)
    (case z_n_min => k_is)
    (case z_n_range => k_is)
    (case z_n_repr => k_is)
    (case z_n_sorted => k_is)
    (case z_n_sum => k_is)
    (case ap_Levels_NoneType => k_is)
    (case ap_Levels_bool => k_is)
    (case ap_Levels_int => k_is)
    (case ap_Levels_str => k_is)
    (case ap_Levels_list => k_is)
    (case ap_Levels_tuple => k_is)
    (case ap_Levels_dict => k_is)
    (case ci1_Levels => k_is)
    (case ci2_Levels => k_is)
    (case ci3_Levels => k_is)
    (case ci4_Levels => k_is)
    (case ci5_Levels => k_is)
    (case ci6_Levels => k_is)
